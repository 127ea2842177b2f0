import PyProof.Rows.All
import Wide.All
import OpenK.AllK
import Wide.FinOn
import HandS.ForMost
import HandS.ForExc
import HandS.Lambda
import HandS.TupAny
import HandS.Deep
import HandS.IsInst
import HandS.Wide
import HandS.CallSlots
import HandS.TupLen
import HandS.WordsDict
import HandS.WordsExc
import HandS.Walk
import HandS.Zip
import HandS.Small
import HandS.DictComp
import KE.GoesMore
import HandS.ExcIs
import HandS.Strs
import HandS.Iter
import HandS.Codes
import HandS.CallLocal
import HandS.TupMul
import HandS.NamedTupSort
import HandS.TupSets
import HandS.Style
import HandS.Defaults
import HandS.EndTab
import HandS.HeadWalk
import HandS.Head0
import HandS.Head1
import HandS.Head2
import HandS.HeadEnd
import HandS.HeadHook1
import HandS.HeadHook2
import HandS.HeadHook3
import HandS.HeadHook4
import PySem.Challenge.RW_oncedoors_k01_whole_kinds
section
set_option Elab.async false
set_option linter.all false
set_option autoImplicit false
set_option maxRecDepth 100000
set_option maxHeartbeats 4000000
/-! OD1: the functional reading: values U, stores, the relation to the abstract heap -/
namespace OD
open PySem L2

inductive U where
  | non | bl (b : Bool) | int (i : Int) | str (s : List Nat) | tup (xs : List U) | ref (n : Nat) | fn (n : Nat) | lam (n : Nat) (cs : List U) | scr (ns : List Int)

def toS (l : List Nat) : Str := ⟨l.toArray⟩

inductive Cell where
  | lst (xs : List U) | rom (xs : List U) | dic (kvs : List (Key × U)) | dit (kvs : List (List Key × U)) | rdic (kvs : List (Key × U)) | ins (c : Nat) (fs : List (Nat × U)) | exc (c : Nat) (f : Option (Nat × U))
/-- may be written -/
def Cell.mut : Cell → Bool
  | .rom _ => false
  | .rdic _ => false
  | _ => true
abbrev Sto := List Cell
abbrev Env := List (Option U)

/-- an expression's end -/
inductive Rs (α : Type) where
  | ok (a : α) (S : Sto) | ex (c : Nat) (f : Option (Nat × U)) (S : Sto) | bad
/-- a statement's end -/
inductive Out where
  | nx (e : Env) (S : Sto) | rt (u : U) (S : Sto) | bk (e : Env) (S : Sto) | ct (e : Env) (S : Sto) | ex (c : Nat) (f : Option (Nat × U)) (e : Env) (S : Sto) | bad
abbrev EM (α : Type) := Env → Sto → Rs α
abbrev SM := Env → Sto → Out
abbrev FM := List U → Sto → Rs U
def Rs.bind {α β : Type} (r : Rs α) (f : α → Sto → Rs β) : Rs β := match r with
  | .ok a S => f a S
  | .ex c g S => .ex c g S
  | .bad => .bad

/-- the text's own: where its defs and classes stand, its attributes' names, its tables -/
structure Ct where
  K : PySem.W.Frag
  adr : Nat → Addr
  fld : Nat → Str
  tabs : List (Addr × Str)
  scr : Addr
  ns : List Int

structure Wd where
  rho : Nat → Addr
  n : Nat
  H : Hp

mutual
inductive RV (C : Ct) (w : Wd) : U → V → Prop
  | non : RV C w .non .non
  | bl (b : Bool) : RV C w (.bl b) (.bl b)
  | int (i : Int) : RV C w (.int i) (.int i)
  | str (s : List Nat) : RV C w (.str s) (.str (toS s))
  | tup {a : Addr} {xs : List U} {vs : List V} : w.H a = some (.tup vs) → RVs C w xs vs → RV C w (.tup xs) (.ref a)
  | ref {i : Nat} : i < w.n → RV C w (.ref i) (.ref (w.rho i))
  | fn (i : Nat) : RV C w (.fn i) (.ref (C.adr i))
  | lam {i : Nat} {cs : List U} {a : Addr} : RV C w (.lam i cs) (.ref a)
  | scr : RV C w (.scr C.ns) (.ref C.scr)
inductive RVs (C : Ct) (w : Wd) : List U → List V → Prop
  | nil : RVs C w [] []
  | cons {u : U} {v : V} {us : List U} {vs : List V} : RV C w u v → RVs C w us vs → RVs C w (u :: us) (v :: vs)
end

/-- the world goes on -/
structure Le (w w' : Wd) : Prop where
  n : w.n ≤ w'.n
  rho : ∀ i, i < w.n → w'.rho i = w.rho i
  tup : ∀ a vs, w.H a = some (.tup vs) → w'.H a = some (.tup vs)
  frz : ∀ a o u, w.H a = some (.frz o u) → w'.H a = some (.frz o u)
  out : ∀ a o, w.H a = some o → (∀ ps, o ≠ .tbl ps) → (∀ i, i < w.n → w.rho i ≠ a) → w'.H a = some o ∧ ∀ i, i < w'.n → w'.rho i ≠ a
theorem upd_none {H : Hp} {a b : Addr} {o : HO} (h : L2.upd H a o b = none) : H b = none := by
  by_cases e : b = a
  · subst e; rw [upd_same] at h; cases h
  · rw [upd_ne e] at h; exact h
theorem Le.refl (w : Wd) : Le w w := ⟨Nat.le_refl _, fun _ _ => rfl, fun _ _ h => h, fun _ _ _ h => h, fun _ _ h _ r => ⟨h, r⟩⟩
theorem Le.trans {a b c : Wd} (x : Le a b) (y : Le b c) : Le a c :=
  ⟨Nat.le_trans x.n y.n, fun i h => (y.rho i (Nat.lt_of_lt_of_le h x.n)).trans (x.rho i h), fun p vs h => y.tup p vs (x.tup p vs h), fun p o u h => y.frz p o u (x.frz p o u h),
    fun p o h t r => let ⟨h1, r1⟩ := x.out p o h t r; y.out p o h1 t r1⟩

/-- what values lean on -/
structure Lf (w w' : Wd) : Prop where
  n : w.n ≤ w'.n
  rho : ∀ i, i < w.n → w'.rho i = w.rho i
  tup : ∀ a vs, w.H a = some (.tup vs) → w'.H a = some (.tup vs)
theorem Le.lf {w w' : Wd} (l : Le w w') : Lf w w' := ⟨l.n, l.rho, l.tup⟩

section
variable {C : Ct} {w w' : Wd}
mutual
theorem RV.lf (l : Lf w w') : ∀ {u : U} {v : V}, RV C w u v → RV C w' u v
  | _, _, .non => .non
  | _, _, .bl b => .bl b
  | _, _, .int i => .int i
  | _, _, .str s => .str s
  | _, _, .tup h r => .tup (l.tup _ _ h) (RVs.lf l r)
  | _, _, .ref (i := i) h => by rw [← l.rho i h]; exact .ref (Nat.lt_of_lt_of_le h l.n)
  | _, _, .fn i => .fn i
  | _, _, .lam => .lam
  | _, _, .scr => .scr
theorem RVs.lf (l : Lf w w') : ∀ {us : List U} {vs : List V}, RVs C w us vs → RVs C w' us vs
  | _, _, .nil => .nil
  | _, _, .cons r t => .cons (RV.lf l r) (RVs.lf l t)
end
theorem RV.le (l : Le w w') {u : U} {v : V} (r : RV C w u v) : RV C w' u v := r.lf l.lf
theorem RVs.le (l : Le w w') {u : List U} {v : List V} (r : RVs C w u v) : RVs C w' u v := r.lf l.lf
theorem RVs.length : ∀ {us : List U} {vs : List V}, RVs C w us vs → us.length = vs.length
  | _, _, .nil => rfl
  | _, _, .cons _ t => congrArg (· + 1) (RVs.length t)
theorem RVs.append : ∀ {us ws : List U} {vs zs : List V}, RVs C w us vs → RVs C w ws zs → RVs C w (us ++ ws) (vs ++ zs)
  | _, _, _, _, .nil, s => s
  | _, _, _, _, .cons r t, s => .cons r (RVs.append t s)
theorem RVs.get : ∀ {us : List U} {vs : List V} {i : Nat} {u : U}, RVs C w us vs → us[i]? = some u → ∃ v, vs[i]? = some v ∧ RV C w u v
  | _, _, _, _, .nil, e => by simp at e
  | _, _, 0, _, .cons r _, e => by simp at e; subst e; exact ⟨_, rfl, r⟩
  | _, _, i + 1, u, .cons _ t, e => by
    obtain ⟨v, h1, h2⟩ := RVs.get (i := i) (u := u) t (by simpa using e)
    exact ⟨v, by simpa using h1, h2⟩
theorem RVs.getV : ∀ {us : List U} {vs : List V} {i : Nat} {v : V}, RVs C w us vs → vs[i]? = some v → ∃ u, us[i]? = some u ∧ RV C w u v
  | _, _, _, _, .nil, e => by simp at e
  | _, _, 0, _, .cons r _, e => by simp at e; subst e; exact ⟨_, rfl, r⟩
  | _, _, i + 1, v, .cons _ t, e => by
    obtain ⟨u, h1, h2⟩ := RVs.getV (i := i) (v := v) t (by simpa using e)
    exact ⟨u, by simpa using h1, h2⟩
theorem RVs.set {u : U} {v : V} (r : RV C w u v) : ∀ {us : List U} {vs : List V} (i : Nat), RVs C w us vs → RVs C w (us.set i u) (vs.set i v)
  | _, _, _, .nil => .nil
  | _, _, 0, .cons _ t => .cons r t
  | _, _, i + 1, .cons q t => .cons q (RVs.set r i t)
theorem RVs.take : ∀ {us : List U} {vs : List V} (n : Nat), RVs C w us vs → RVs C w (us.take n) (vs.take n)
  | _, _, 0, _ => .nil
  | _, _, _ + 1, .nil => .nil
  | _, _, n + 1, .cons r t => .cons r (RVs.take n t)
theorem RVs.drop : ∀ {us : List U} {vs : List V} (n : Nat), RVs C w us vs → RVs C w (us.drop n) (vs.drop n)
  | _, _, 0, r => r
  | _, _, _ + 1, .nil => .nil
  | _, _, n + 1, .cons _ t => RVs.drop n t
theorem RVs.reverse : ∀ {us : List U} {vs : List V}, RVs C w us vs → RVs C w us.reverse vs.reverse
  | _, _, .nil => .nil
  | _, _, .cons r t => by
    rw [List.reverse_cons, List.reverse_cons]
    exact RVs.append (RVs.reverse t) (.cons r .nil)
theorem RVs.eraseIdx : ∀ {us : List U} {vs : List V} (i : Nat), RVs C w us vs → RVs C w (us.eraseIdx i) (vs.eraseIdx i)
  | _, _, _, .nil => .nil
  | _, _, 0, .cons _ t => t
  | _, _, i + 1, .cons r t => .cons r (RVs.eraseIdx i t)
theorem RVs.dropLast : ∀ {us : List U} {vs : List V}, RVs C w us vs → RVs C w us.dropLast vs.dropLast
  | _, _, .nil => .nil
  | _, _, .cons r .nil => .nil
  | _, _, .cons r (.cons r' t) => .cons r (RVs.dropLast (.cons r' t))

/-! keyed rows -/
inductive RKs (C : Ct) (w : Wd) {κ κ' : Type} (f : κ → κ') : List (κ × U) → List (κ' × V) → Prop
  | nil : RKs C w f [] []
  | cons {k : κ} {u : U} {v : V} {us : List (κ × U)} {vs : List (κ' × V)} : RV C w u v → RKs C w f us vs → RKs C w f ((k, u) :: us) ((f k, v) :: vs)
theorem RKs.lf {κ κ' : Type} {f : κ → κ'} (l : Lf w w') : ∀ {us : List (κ × U)} {vs : List (κ' × V)}, RKs C w f us vs → RKs C w' f us vs
  | _, _, .nil => .nil
  | _, _, .cons r t => .cons (r.lf l) (RKs.lf l t)
theorem RKs.le {κ κ' : Type} {f : κ → κ'} (l : Le w w') {us : List (κ × U)} {vs : List (κ' × V)} (r : RKs C w f us vs) : RKs C w' f us vs := r.lf l.lf
theorem RKs.length {κ κ' : Type} {f : κ → κ'} : ∀ {us : List (κ × U)} {vs : List (κ' × V)}, RKs C w f us vs → us.length = vs.length
  | _, _, .nil => rfl
  | _, _, .cons _ t => congrArg (· + 1) (RKs.length t)

/-- a cell and what stands at its address -/
def CellR (C : Ct) (w : Wd) (a : Addr) : Cell → Prop
  | .lst xs => ∃ vs, w.H a = some (.lst vs) ∧ RVs C w xs vs
  | .rom xs => ∃ o vs, w.H a = some (.frz o (.lst vs)) ∧ RVs C w xs vs
  | .dic kvs => ∃ vs, w.H a = some (.dK vs) ∧ RKs C w id kvs vs
  | .dit kvs => ∃ vs, w.H a = some (.dT vs) ∧ RKs C w id kvs vs
  | .rdic kvs => ∃ o vs, w.H a = some (.frz o (.dK vs)) ∧ RKs C w id kvs vs
  | .ins c fs => ∃ dx vs, w.H a = some (.ins (C.adr c) dx vs) ∧ RKs C w C.fld fs vs
  | .exc _ _ => False

/-- the script stands -/
def Scr (C : Ct) (w : Wd) : Prop := (w.H C.scr = some (.lst (C.ns.map V.int)) ∧ ∀ i, i < w.n → w.rho i ≠ C.scr) ∨ (∃ o, w.H C.scr = some (.frz o (.lst (C.ns.map V.int)))) ∨
  ∃ (o : Obj) (its : Array Value) (n : Nat), C.K.lookup C.scr = some o ∧ o.cls = .type "list" ∧ o.dict = none ∧ o.data = .seq its n ∧ its.size ≤ sizeLine ∧ Vals (C.ns.map V.int) its.toList
theorem Scr.le {C : Ct} {w w' : Wd} (l : Le w w') (h : Scr C w) : Scr C w' := by
  rcases h with ⟨h, r⟩ | ⟨o, h⟩ | h
  · obtain ⟨h1, h2⟩ := l.out _ _ h (fun _ q => nomatch q) r
    exact .inl ⟨h1, h2⟩
  · exact .inr (.inl ⟨o, l.frz _ _ _ h⟩)
  · exact .inr (.inr h)
theorem Scr.sq {C : Ct} {w : Wd} (h : Scr C w) : SqL C.K w.H C.scr (C.ns.map V.int) := by
  rcases h with ⟨h, r⟩ | ⟨o, h⟩ | h
  · exact .inl (.inl h)
  · exact .inl (.inr ⟨o, h⟩)
  · exact .inr h
theorem rv_ints {C : Ct} {w : Wd} : ∀ ns : List Int, RVs C w (ns.map U.int) (ns.map V.int)
  | [] => .nil
  | n :: ns => .cons (.int n) (rv_ints ns)
structure Sim (C : Ct) (w : Wd) (S : Sto) : Prop where
  len : S.length = w.n
  inj : ∀ i j, i < w.n → j < w.n → w.rho i = w.rho j → i = j
  cell : ∀ i c, S[i]? = some c → CellR C w (w.rho i) c
  tab : LamX.Tabs C.tabs w.H
  scr : Scr C w
/-- tables and what has a description of its own stay -/
def KeepT (H H' : Hp) : Prop := (∀ b ps, H b = some (.tbl ps) → H' b = some (.tbl ps)) ∧ ∀ b f, H b = some (.ext f) → H' b = some (.ext f)
theorem KeepT.tabs {H H' : Hp} {T : List (Addr × Str)} (k : KeepT H H') (t : LamX.Tabs T H) : LamX.Tabs T H' := fun p hp =>
  let ⟨ps, e, ok, f⟩ := t p hp
  ⟨ps, k.1 _ _ e, ok, fun pos cv hc => let ⟨c, e1, e2⟩ := f pos cv hc; ⟨c, e1, k.2 _ _ e2⟩⟩
theorem KeepT.upd {H : Hp} {a : Addr} {o : HO} (h1 : ∀ ps, H a ≠ some (.tbl ps)) (h2 : ∀ f, H a ≠ some (.ext f)) : KeepT H (L2.upd H a o) :=
  ⟨fun b ps e => by rw [upd_ne (fun q => h1 ps (by rw [← q]; exact e))]; exact e, fun b f e => by rw [upd_ne (fun q => h2 f (by rw [← q]; exact e))]; exact e⟩
theorem KeepT.new {H : Hp} {a : Addr} {o : HO} (h : H a = none) : KeepT H (L2.upd H a o) := KeepT.upd (fun ps q => by rw [h] at q; cases q) (fun f q => by rw [h] at q; cases q)
/-- nothing but a table, perhaps -/
def Nw (w : Wd) (a : Addr) : Prop := ∀ o, w.H a = some o → ∃ ps, o = .tbl ps

theorem CellR.lf {a : Addr} {c : Cell} (l : Lf w w') (h : w'.H a = w.H a) (r : CellR C w a c) : CellR C w' a c := by
  cases c with
  | lst xs => obtain ⟨vs, e, r⟩ := r; exact ⟨vs, h.trans e, r.lf l⟩
  | rom xs => obtain ⟨o, vs, e, r⟩ := r; exact ⟨o, vs, h.trans e, r.lf l⟩
  | dic xs => obtain ⟨vs, e, r⟩ := r; exact ⟨vs, h.trans e, r.lf l⟩
  | dit xs => obtain ⟨vs, e, r⟩ := r; exact ⟨vs, h.trans e, r.lf l⟩
  | rdic xs => obtain ⟨o, vs, e, r⟩ := r; exact ⟨o, vs, h.trans e, r.lf l⟩
  | ins k xs => obtain ⟨d, vs, e, r⟩ := r; exact ⟨d, vs, h.trans e, r.lf l⟩
  | exc k f => exact r
theorem CellR.leH {a : Addr} {c : Cell} (l : Le w w') (h : w'.H a = w.H a) (r : CellR C w a c) : CellR C w' a c := r.lf l.lf h
theorem CellR.some {a : Addr} {c : Cell} (r : CellR C w a c) : ∃ o, w.H a = some o ∧ (∀ vs, o ≠ .tup vs) ∧ (∀ ps, o ≠ .tbl ps) ∧ ∀ f, o ≠ .ext f := by
  cases c with
  | lst xs => obtain ⟨vs, e, r⟩ := r; exact ⟨_, e, fun _ q => (nomatch q), fun _ q => (nomatch q), fun _ q => nomatch q⟩
  | rom xs => obtain ⟨o, vs, e, r⟩ := r; exact ⟨_, e, fun _ q => (nomatch q), fun _ q => (nomatch q), fun _ q => nomatch q⟩
  | dic xs => obtain ⟨vs, e, r⟩ := r; exact ⟨_, e, fun _ q => (nomatch q), fun _ q => (nomatch q), fun _ q => nomatch q⟩
  | dit xs => obtain ⟨vs, e, r⟩ := r; exact ⟨_, e, fun _ q => (nomatch q), fun _ q => (nomatch q), fun _ q => nomatch q⟩
  | rdic xs => obtain ⟨o, vs, e, r⟩ := r; exact ⟨_, e, fun _ q => (nomatch q), fun _ q => (nomatch q), fun _ q => nomatch q⟩
  | ins k xs => obtain ⟨d, vs, e, r⟩ := r; exact ⟨_, e, fun _ q => (nomatch q), fun _ q => (nomatch q), fun _ q => nomatch q⟩
  | exc k f => exact r.elim

theorem CellR.nofrz {a : Addr} {c : Cell} (r : CellR C w a c) (h : c.mut = true) : ∀ (o : Obj) (u : HO), w.H a ≠ Option.some (HO.frz o u) := by
  intro o u q
  cases c with
  | lst xs => obtain ⟨vs, e, r⟩ := r; rw [e] at q; cases q
  | rom xs => cases h
  | dic xs => obtain ⟨vs, e, r⟩ := r; rw [e] at q; cases q
  | dit xs => obtain ⟨vs, e, r⟩ := r; rw [e] at q; cases q
  | rdic xs => cases h
  | ins k xs => obtain ⟨d, vs, e, r⟩ := r; rw [e] at q; cases q
  | exc k f => exact r.elim

section
variable {S : Sto}
theorem Sim.lt (s : Sim C w S) {i : Nat} {c : Cell} (h : S[i]? = some c) : i < w.n := by
  rw [← s.len]; exact (List.getElem?_eq_some_iff.mp h).1
theorem Sim.there (s : Sim C w S) {i : Nat} (h : i < w.n) : ∃ c, S[i]? = some c :=
  ⟨S[i]'(by rw [s.len]; exact h), List.getElem?_eq_getElem _⟩
/-- an untracked thing is laid: no cell for it -/
theorem Sim.upd (s : Sim C w S) {a : Addr} {o : HO} (h : w.H a = none) : Sim C ⟨w.rho, w.n, upd w.H a o⟩ S ∧ Le w ⟨w.rho, w.n, L2.upd w.H a o⟩ := by
  have l : Le w ⟨w.rho, w.n, L2.upd w.H a o⟩ := ⟨Nat.le_refl _, fun _ _ => rfl, fun b vs e => by show L2.upd w.H a o b = _; rw [upd_ne (ne_of_none e h)]; exact e,
    fun b o' u e => by (show L2.upd w.H a o b = _); rw [upd_ne (ne_of_none e h)]; exact e,
    fun b u e _ r => ⟨by show L2.upd w.H a o b = _; rw [upd_ne (ne_of_none e h)]; exact e, r⟩⟩
  refine ⟨⟨s.len, s.inj, fun i c e => ?_, (KeepT.new h).tabs s.tab, s.scr.le l⟩, l⟩
  have r := s.cell i c e
  obtain ⟨o', e', _⟩ := r.some
  exact r.leH l (by show L2.upd w.H a o (w.rho i) = _; rw [upd_ne (ne_of_none e' h)])
/-- a new cell -/
theorem Sim.new (s : Sim C w S) {a : Addr} {o : HO} {c : Cell} (h : w.H a = none)
    (r : ∀ w', Le w w' → w'.H = L2.upd w.H a o → CellR C w' a c) :
    Sim C ⟨fun i => if i = w.n then a else w.rho i, w.n + 1, L2.upd w.H a o⟩ (S ++ [c]) ∧ Le w ⟨fun i => if i = w.n then a else w.rho i, w.n + 1, L2.upd w.H a o⟩ := by
  have l : Le w ⟨fun i => if i = w.n then a else w.rho i, w.n + 1, L2.upd w.H a o⟩ :=
    ⟨Nat.le_succ _, fun i hi => by show (if i = w.n then a else w.rho i) = _; rw [if_neg (Nat.ne_of_lt hi)], fun b vs e => by show L2.upd w.H a o b = _; rw [upd_ne (ne_of_none e h)]; exact e,
      fun b o' u e => by (show L2.upd w.H a o b = _); rw [upd_ne (ne_of_none e h)]; exact e,
      fun b u e _ r => ⟨by show L2.upd w.H a o b = _; rw [upd_ne (ne_of_none e h)]; exact e, fun i hi => by
        show (if i = w.n then a else w.rho i) ≠ b
        by_cases q : i = w.n
        · rw [if_pos q]; exact Ne.symm (ne_of_none e h)
        · rw [if_neg q]; exact r i (Nat.lt_of_le_of_ne (Nat.le_of_lt_succ hi) q)⟩⟩
  have old : ∀ i, i < w.n → w.rho i ≠ a := fun i hi q => by
    obtain ⟨c', e⟩ := s.there hi
    obtain ⟨o', e', _⟩ := (s.cell i c' e).some
    rw [q, h] at e'; cases e'
  refine ⟨⟨by simp [s.len], fun i j hi hj q => ?_, fun i c' e => ?_, (KeepT.new h).tabs s.tab, s.scr.le l⟩, l⟩
  · simp only at hi hj q
    by_cases h1 : i = w.n
    · by_cases h2 : j = w.n
      · omega
      · rw [if_pos h1, if_neg h2] at q
        exact absurd q.symm (old j (by omega))
    · by_cases h2 : j = w.n
      · rw [if_neg h1, if_pos h2] at q
        exact absurd q (old i (by omega))
      · rw [if_neg h1, if_neg h2] at q
        exact s.inj i j (by omega) (by omega) q
  · show CellR C _ (if i = w.n then a else w.rho i) c'
    by_cases h1 : i = w.n
    · rw [if_pos h1]
      have : c' = c := by
        rw [h1, ← s.len] at e
        simpa using e.symm
      subst this
      exact r _ l rfl
    · rw [if_neg h1]
      have e0 : S[i]? = .some c' := by
        have hi : i < (S ++ [c]).length := (List.getElem?_eq_some_iff.mp e).1
        simp [s.len] at hi
        rw [List.getElem?_append_left (by rw [s.len]; omega)] at e
        exact e
      have q := s.cell i c' e0
      obtain ⟨o', e', _⟩ := q.some
      exact q.leH l (by show L2.upd w.H a o (w.rho i) = _; rw [upd_ne (ne_of_none e' h)])
/-- a tracked list that was made since w0 gets a cell -/
theorem Sim.adopt {w0 : Wd} (s : Sim C w S) (sc : Scr C w0) (l : Le w0 w) {a : Addr} {o : HO} {c : Cell} (h : w.H a = some o) (h0 : Nw w0 a) (ho : ∀ vs, o ≠ .tup vs) (hr : ∀ i, i < w.n → w.rho i ≠ a)
    (r : ∀ w', (∀ u v, RV C w u v → RV C w' u v) → (∀ us vs, RVs C w us vs → RVs C w' us vs) → w'.H = w.H → CellR C w' a c) :
    Sim C ⟨fun i => if i = w.n then a else w.rho i, w.n + 1, w.H⟩ (S ++ [c]) ∧ Le w0 ⟨fun i => if i = w.n then a else w.rho i, w.n + 1, w.H⟩ ∧ (∀ u v, RV C w u v → RV C ⟨fun i => if i = w.n then a else w.rho i, w.n + 1, w.H⟩ u v) := by
  have m1 : ∀ i, i < w.n → (if i = w.n then a else w.rho i) = w.rho i := fun i hi => if_neg (Nat.ne_of_lt hi)
  have lift : Lf w ⟨fun i => if i = w.n then a else w.rho i, w.n + 1, w.H⟩ := ⟨Nat.le_succ _, m1, fun _ _ e => e⟩
  have l2 : Le w0 ⟨fun i => if i = w.n then a else w.rho i, w.n + 1, w.H⟩ := ⟨Nat.le_trans l.n (Nat.le_succ _), fun i hi => (m1 i (Nat.lt_of_lt_of_le hi l.n)).trans (l.rho i hi), fun b vs e => l.tup b vs e, fun b o' u e => l.frz b o' u e, fun b u e t r0 => by
    obtain ⟨e1, r1⟩ := l.out b u e t r0
    refine ⟨e1, fun i hi => ?_⟩
    show (if i = w.n then a else w.rho i) ≠ b
    by_cases q : i = w.n
    · rw [if_pos q]; exact fun z => by subst z; obtain ⟨ps, z⟩ := h0 _ e; exact t ps z
    · rw [if_neg q]; exact r1 i (Nat.lt_of_le_of_ne (Nat.le_of_lt_succ hi) q)⟩
  refine ⟨⟨by simp [s.len], fun i j hi hj q => ?_, fun i c' e => ?_, s.tab, sc.le l2⟩, l2, fun u v q => q.lf lift⟩
  · simp only at hi hj q
    by_cases h1 : i = w.n
    · by_cases h2 : j = w.n
      · omega
      · rw [if_pos h1, if_neg h2] at q
        exact absurd q.symm (hr j (by omega))
    · by_cases h2 : j = w.n
      · rw [if_neg h1, if_pos h2] at q
        exact absurd q (hr i (by omega))
      · rw [if_neg h1, if_neg h2] at q
        exact s.inj i j (by omega) (by omega) q
  · show CellR C _ (if i = w.n then a else w.rho i) c'
    by_cases h1 : i = w.n
    · rw [if_pos h1]
      have : c' = c := by
        rw [h1, ← s.len] at e
        simpa using e.symm
      subst this
      exact r _ (fun u v q => q.lf lift) (fun u v q => q.lf lift) rfl
    · rw [if_neg h1]
      have e0 : S[i]? = .some c' := by
        have hi : i < (S ++ [c]).length := (List.getElem?_eq_some_iff.mp e).1
        simp [s.len] at hi
        rw [List.getElem?_append_left (by rw [s.len]; omega)] at e
        exact e
      exact (s.cell i c' e0).lf lift rfl
/-- a cell is written -/
theorem Sim.put (s : Sim C w S) {i : Nat} {o : HO} {c c0 : Cell} (h : S[i]? = some c0) (hm : c0.mut = true) (r : ∀ w', Le w w' → w'.H = L2.upd w.H (w.rho i) o → CellR C w' (w.rho i) c) :
    Sim C ⟨w.rho, w.n, L2.upd w.H (w.rho i) o⟩ (S.set i c) ∧ Le w ⟨w.rho, w.n, L2.upd w.H (w.rho i) o⟩ := by
  have hi := s.lt h
  obtain ⟨o0, e0, n0, n2⟩ := (s.cell i c0 h).some
  have n1 := (s.cell i c0 h).nofrz hm
  have l : Le w ⟨w.rho, w.n, L2.upd w.H (w.rho i) o⟩ := ⟨Nat.le_refl _, fun _ _ => rfl, fun b vs e => by
    show L2.upd w.H (w.rho i) o b = _
    rw [upd_ne (fun q => by rw [q, e0] at e; exact n0 vs (Option.some.inj e))]; exact e,
    fun b o' u e => by
      show L2.upd w.H (w.rho i) o b = _
      rw [upd_ne (fun q => n1 o' u (by rw [← q]; exact e))]; exact e,
    fun b u e _ r => ⟨by show L2.upd w.H (w.rho i) o b = _; rw [upd_ne (Ne.symm (r i hi))]; exact e, r⟩⟩
  refine ⟨⟨by simp [s.len], s.inj, fun j c' e => ?_, (KeepT.upd (fun ps q => by rw [e0] at q; exact n2.1 ps (Option.some.inj q)) (fun f q => by rw [e0] at q; exact n2.2 f (Option.some.inj q))).tabs s.tab, s.scr.le l⟩, l⟩
  by_cases h1 : j = i
  · subst h1
    rw [List.getElem?_set_self (by rw [s.len]; exact hi)] at e
    cases e
    exact r _ l rfl
  · rw [List.getElem?_set_ne (Ne.symm h1)] at e
    have q := s.cell j c' e
    exact q.leH l (by show L2.upd w.H (w.rho i) o (w.rho j) = _; rw [upd_ne (fun z => h1 (s.inj j i (s.lt e) hi z))])
end

/-- the slots -/
inductive RO (C : Ct) (w : Wd) : Option U → Option V → Prop
  | none {o : Option V} : RO C w none o
  | some {u : U} {v : V} : RV C w u v → RO C w (some u) (some v)
inductive EnvR (C : Ct) (w : Wd) : Env → St → Prop
  | nil : EnvR C w [] []
  | cons {u : Option U} {v : Option V} {us : Env} {vs : St} : RO C w u v → EnvR C w us vs → EnvR C w (u :: us) (v :: vs)
theorem RO.lf (l : Lf w w') {u : Option U} {v : Option V} (r : RO C w u v) : RO C w' u v := by
  cases r with
  | none => exact .none
  | some r => exact .some (r.lf l)
theorem EnvR.lf (l : Lf w w') : ∀ {e : Env} {σ : St}, EnvR C w e σ → EnvR C w' e σ
  | _, _, .nil => .nil
  | _, _, .cons r t => .cons (r.lf l) (EnvR.lf l t)
theorem RO.le (l : Le w w') {u : Option U} {v : Option V} (r : RO C w u v) : RO C w' u v := by
  cases r with
  | none => exact .none
  | some r => exact .some (r.le l)
theorem EnvR.le (l : Le w w') : ∀ {e : Env} {σ : St}, EnvR C w e σ → EnvR C w' e σ
  | _, _, .nil => .nil
  | _, _, .cons r t => .cons (r.le l) (EnvR.le l t)
theorem EnvR.get : ∀ {e : Env} {σ : St} {i : Nat} {u : U}, EnvR C w e σ → e[i]? = some (some u) → ∃ v, σ[i]? = some (some v) ∧ RV C w u v
  | _, _, _, _, .nil, h => by simp at h
  | _, _, 0, _, .cons r _, h => by simp at h; subst h; cases r with | some r => exact ⟨_, rfl, r⟩
  | _, _, i + 1, u, .cons _ t, h => by
    obtain ⟨v, h1, h2⟩ := EnvR.get (i := i) (u := u) t (by simpa using h)
    exact ⟨v, by simpa using h1, h2⟩
theorem EnvR.set {u : Option U} {v : Option V} (r : RO C w u v) : ∀ {e : Env} {σ : St} (i : Nat), EnvR C w e σ → EnvR C w (e.set i u) (σ.set i v)
  | _, _, _, .nil => .nil
  | _, _, 0, .cons _ t => .cons r t
  | _, _, i + 1, .cons q t => .cons q (EnvR.set r i t)
theorem EnvR.blank : ∀ (n : Nat), EnvR C w (List.replicate n none) (List.replicate n none)
  | 0 => .nil
  | n + 1 => .cons .none (EnvR.blank n)
theorem EnvR.append : ∀ {e e' : Env} {σ σ' : St}, EnvR C w e σ → EnvR C w e' σ' → EnvR C w (e ++ e') (σ ++ σ')
  | _, _, _, _, .nil, s => s
  | _, _, _, _, .cons r t, s => .cons r (EnvR.append t s)
theorem EnvR.args : ∀ {us : List U} {vs : List V}, RVs C w us vs → EnvR C w (us.map some) (vs.map some)
  | _, _, .nil => .nil
  | _, _, .cons r t => .cons (.some r) (EnvR.args t)
theorem EnvR.length : ∀ {e : Env} {σ : St}, EnvR C w e σ → e.length = σ.length
  | _, _, .nil => rfl
  | _, _, .cons _ t => congrArg (· + 1) (EnvR.length t)

/-! what is wanted of an end -/
/-- an exception's object: its dict, if it keeps something -/
def ExR (C : Ct) (w : Wd) (f : Option (Nat × U)) (d : Option Addr) : Prop := match f, d with
  | none, none => True
  | some (n, u), some a => ∃ v, w.H a = some (.xd [(C.fld n, v)]) ∧ RV C w u v
  | _, _ => False
def Ps {α β : Type} (C : Ct) (W : WX) (σ : St) (w : Wd) (r : Rs α) (R : Wd → α → β → Prop) (Q : β → Hp → Prop) : Prop := match r with
  | .ok u S => ∀ w' v, Le w w' → Sim C w' S → R w' u v → Q v w'.H
  | .ex c f S => ∀ w' d, Le w w' → Sim C w' S → ExR C w' f d → W (.ref (C.adr c)) d σ w'.H
  | .bad => False
def PsS (C : Ct) (W : WX) (D : Ends) (w : Wd) (o : Out) : Prop := match o with
  | .nx e S => ∀ w' σ, Le w w' → Sim C w' S → EnvR C w' e σ → D.nx σ w'.H
  | .rt u S => ∀ w' v, Le w w' → Sim C w' S → RV C w' u v → D.rt v w'.H
  | .bk e S => ∀ w' σ, Le w w' → Sim C w' S → EnvR C w' e σ → D.bk σ w'.H
  | .ct e S => ∀ w' σ, Le w w' → Sim C w' S → EnvR C w' e σ → D.ct σ w'.H
  | .ex c f e S => ∀ w' σ d, Le w w' → Sim C w' S → EnvR C w' e σ → ExR C w' f d → W (.ref (C.adr c)) d σ w'.H
  | .bad => False
theorem Ps.le {α β : Type} {W : WX} {σ : St} {r : Rs α} {R : Wd → α → β → Prop} {Q : β → Hp → Prop} (p : Ps C W σ w r R Q) (l : Le w w') : Ps C W σ w' r R Q := by
  cases r with
  | ok u S => exact fun w2 v l2 s q => p w2 v (l.trans l2) s q
  | ex c f S => exact fun w2 d l2 s q => p w2 d (l.trans l2) s q
  | bad => exact p
theorem PsS.le {W : WX} {D : Ends} {o : Out} (p : PsS C W D w o) (l : Le w w') : PsS C W D w' o := by
  cases o with
  | nx e S => exact fun w2 σ l2 s q => p w2 σ (l.trans l2) s q
  | rt e S => exact fun w2 σ l2 s q => p w2 σ (l.trans l2) s q
  | bk e S => exact fun w2 σ l2 s q => p w2 σ (l.trans l2) s q
  | ct e S => exact fun w2 σ l2 s q => p w2 σ (l.trans l2) s q
  | ex c f e S => exact fun w2 σ d l2 s q => p w2 σ d (l.trans l2) s q
  | bad => exact p
end

/-- where one stands -/
structure At (C : Ct) (w : Wd) (env : Env) (S : Sto) (σ : St) (H : Hp) : Prop where
  h : w.H = H
  e : EnvR C w env σ
  s : Sim C w S
def tE (C : Ct) (W : WX) (m : EM U) : TE := fun σ H Q => ∃ w env S, At C w env S σ H ∧ Ps C W σ w (m env S) (RV C) Q
def RB (_ : Wd) (a b : Bool) : Prop := a = b
def tT (C : Ct) (W : WX) (m : EM Bool) : TT := fun σ H Q => ∃ w env S, At C w env S σ H ∧ Ps C W σ w (m env S) RB Q
def tA (C : Ct) (W : WX) (m : EM (List U)) : TA := fun σ H Q => ∃ w env S, At C w env S σ H ∧ Ps C W σ w (m env S) (RVs C) Q
def tS (C : Ct) (W : WX) (m : SM) : TS := fun D σ H => ∃ w env S, At C w env S σ H ∧ PsS C W D w (m env S)

/-- the judgement's implication -/
theorem PE_imp {X : Cx} {e : Expr} {t t' : TE} (h : PE X e t) (i : ∀ σ H Q, t' σ H Q → t σ H Q) : PE X e t' := ⟨fun pins s σ H Q I q => h.run pins s σ H Q I (i _ _ _ q)⟩
theorem PT_imp {X : Cx} {e : Expr} {t t' : TT} (h : PT X e t) (i : ∀ σ H Q, t' σ H Q → t σ H Q) : PT X e t' := ⟨fun pins s σ H Q I q => h.run pins s σ H Q I (i _ _ _ q)⟩
theorem PW_imp {X : Cx} {e : Expr} {t t' : TT} (h : PW X e t) (i : ∀ σ H Q, t' σ H Q → t σ H Q) : PW X e t' := ⟨fun whole pins s σ H Q I q => h.run whole pins s σ H Q I (i _ _ _ q)⟩
theorem PA_imp {X : Cx} {e : List Expr} {t t' : TA} (h : PA X e t) (i : ∀ σ H Q, t' σ H Q → t σ H Q) : PA X e t' := ⟨fun pos pins s σ H Q I q => h.run pos pins s σ H Q I (i _ _ _ q)⟩
theorem PS_imp {X : Cx} {e : Stmt} {t t' : TS} (h : PS X e t) (i : ∀ D σ H, t' D σ H → t D σ H) : PS X e t' := ⟨fun pins s σ H D I q => h.run pins s σ H D I (i _ _ _ q)⟩
theorem PSs_imp {X : Cx} {e : List Stmt} {t t' : TS} (h : PSs X e t) (i : ∀ D σ H, t' D σ H → t D σ H) : PSs X e t' := ⟨fun pins s σ H D I q => h.run pins s σ H D I (i _ _ _ q)⟩
end OD
end

section
set_option Elab.async false
set_option linter.all false
set_option autoImplicit false
set_option maxRecDepth 100000
set_option maxHeartbeats 4000000
/-! OD2: expressions -/
namespace OD
open PySem L2

abbrev WF : WX := fun _ _ _ _ => False
theorem tkF {X : Cx} : Takes X WF := fun u s' h => by
  obtain ⟨_, _, _, _, _, _, _, _, _, _, _, _, _, _, _, _, f⟩ := h
  exact f.elim

section
variable {C : Ct} {W : WX} {w w1 : Wd} {σ : St} {H : Hp} {env : Env} {S S1 : Sto}
theorem tE_mono {m : EM U} {Q Q' : VK} (h : ∀ v H', Q v H' → Q' v H') (t : tE C W m σ H Q) : tE C W m σ H Q' := by
  obtain ⟨w, env, S, a, p⟩ := t
  refine ⟨w, env, S, a, ?_⟩
  cases e : m env S with
  | ok u S' => rw [e] at p; exact fun w' v l s r => h _ _ (p w' v l s r)
  | ex c f S' => rw [e] at p; exact p
  | bad => rw [e] at p; exact p
theorem At.go (a : At C w env S σ H) (l : Le w w1) (s : Sim C w1 S1) : At C w1 env S1 σ w1.H := ⟨rfl, a.e.le l, s⟩
theorem Ps_bind {α β α' β' : Type} {r : Rs α} {f : α → Sto → Rs β} {R : Wd → α → α' → Prop} {R' : Wd → β → β' → Prop} {Q : β' → Hp → Prop} (p : Ps C W σ w (r.bind f) R' Q) :
    Ps C W σ w r R (fun x H1 => ∃ w1 u S1, w1.H = H1 ∧ Le w w1 ∧ Sim C w1 S1 ∧ R w1 u x ∧ Ps C W σ w1 (f u S1) R' Q) := by
  cases r with
  | ok u S' => exact fun w1 v l s q => ⟨w1, u, S', rfl, l, s, q, p.le l⟩
  | ex c g S' => exact p
  | bad => exact p
theorem Ps_mono {α β : Type} {r : Rs α} {R : Wd → α → β → Prop} {Q Q' : β → Hp → Prop} (h : ∀ v H', Q v H' → Q' v H') (p : Ps C W σ w r R Q) : Ps C W σ w r R Q' := by
  cases r with
  | ok u S' => exact fun w' v l s q => h _ _ (p w' v l s q)
  | ex c g S' => exact p
  | bad => exact p
/-- one, then the rest -/
theorem tE_of {α β : Type} {m : EM U} {g : U → Sto → Rs α} {R : Wd → α → β → Prop} {Q : β → Hp → Prop} (a : At C w env S σ H) (p : Ps C W σ w ((m env S).bind g) R Q) :
    tE C W m σ H fun x H1 => ∃ w1 u S1, At C w1 env S1 σ H1 ∧ Le w w1 ∧ RV C w1 u x ∧ Ps C W σ w1 (g u S1) R Q :=
  ⟨w, env, S, a, Ps_mono (fun v H' ⟨w1, u, S1, e, l, s, r, p⟩ => ⟨w1, u, S1, by rw [← e]; exact a.go l s, l, r, p⟩) (Ps_bind p)⟩
theorem tT_of {α β : Type} {m : EM Bool} {g : Bool → Sto → Rs α} {R : Wd → α → β → Prop} {Q : β → Hp → Prop} (a : At C w env S σ H) (p : Ps C W σ w ((m env S).bind g) R Q) :
    tT C W m σ H fun x H1 => ∃ w1 S1, At C w1 env S1 σ H1 ∧ Le w w1 ∧ Ps C W σ w1 (g x S1) R Q :=
  ⟨w, env, S, a, Ps_mono (fun v H' ⟨w1, u, S1, e, l, s, r, p⟩ => ⟨w1, S1, by rw [← e]; exact a.go l s, l, by cases r; exact p⟩) (Ps_bind p)⟩
theorem tA_of {α β : Type} {m : EM (List U)} {g : List U → Sto → Rs α} {R : Wd → α → β → Prop} {Q : β → Hp → Prop} (a : At C w env S σ H) (p : Ps C W σ w ((m env S).bind g) R Q) :
    tA C W m σ H fun x H1 => ∃ w1 u S1, At C w1 env S1 σ H1 ∧ Le w w1 ∧ RVs C w1 u x ∧ Ps C W σ w1 (g u S1) R Q :=
  ⟨w, env, S, a, Ps_mono (fun v H' ⟨w1, u, S1, e, l, s, r, p⟩ => ⟨w1, u, S1, by rw [← e]; exact a.go l s, l, r, p⟩) (Ps_bind p)⟩
theorem tT_mono {m : EM Bool} {Q Q' : Bool → Hp → Prop} (h : ∀ v H', Q v H' → Q' v H') (t : tT C W m σ H Q) : tT C W m σ H Q' := by
  obtain ⟨w, env, S, a, p⟩ := t
  exact ⟨w, env, S, a, Ps_mono h p⟩
theorem tA_mono {m : EM (List U)} {Q Q' : List V → Hp → Prop} (h : ∀ v H', Q v H' → Q' v H') (t : tA C W m σ H Q) : tA C W m σ H Q' := by
  obtain ⟨w, env, S, a, p⟩ := t
  exact ⟨w, env, S, a, Ps_mono h p⟩
/-- an end that is there -/
theorem Ps.ok {α β : Type} {u : α} {R : Wd → α → β → Prop} {Q : β → Hp → Prop} {v : β} (p : Ps C W σ w (.ok u S) R Q) (l : Le w w1) (s : Sim C w1 S) (r : R w1 u v) : Q v w1.H := p w1 v l s r
end

/-! ### values by an operation that ends -/
def lift (o : Option (U × Sto)) : Rs U := match o with
  | some (u, S) => .ok u S
  | none => .bad
def PsO (C : Ct) (w : Wd) (o : Option (U × Sto)) (Q : VK) : Prop := match o with
  | some (u, S) => ∀ w' v, Le w w' → Sim C w' S → RV C w' u v → Q v w'.H
  | none => False
theorem PsO_of {C : Ct} {W : WX} {w : Wd} {σ : St} {o : Option (U × Sto)} {Q : VK} (p : Ps C W σ w (lift o) (RV C) Q) : PsO C w o Q := by
  cases o with
  | none => exact p
  | some x => exact p
def rB (C : Ct) (f : U → U → Sto → Option (U × Sto)) : R2 := fun x y H Q => ∃ w u v S, w.H = H ∧ Sim C w S ∧ RV C w u x ∧ RV C w v y ∧ PsO C w (f u v S) Q
def rU1 (C : Ct) (f : U → Sto → Option (U × Sto)) : V → Hp → VK → Prop := fun x H Q => ∃ w u S, w.H = H ∧ Sim C w S ∧ RV C w u x ∧ PsO C w (f u S) Q
def rN (C : Ct) (f : List U → Sto → Option (U × Sto)) : List V → Hp → VK → Prop := fun xs H Q => ∃ w us S, w.H = H ∧ Sim C w S ∧ RVs C w us xs ∧ PsO C w (f us S) Q
def rM (C : Ct) (f : U → List U → Sto → Option (U × Sto)) : V → List V → Hp → VK → Prop := fun x xs H Q => ∃ w u us S, w.H = H ∧ Sim C w S ∧ RV C w u x ∧ RVs C w us xs ∧ PsO C w (f u us S) Q

def mOp (f : U → U → Sto → Option (U × Sto)) (a b : EM U) : EM U := fun e S => (a e S).bind fun u S1 => (b e S1).bind fun v S2 => lift (f u v S2)
def mUn (f : U → Sto → Option (U × Sto)) (a : EM U) : EM U := fun e S => (a e S).bind fun u S1 => lift (f u S1)
def mVar (i : Nat) : EM U := fun e S => match e[i]? with
  | some (some u) => .ok u S
  | _ => .bad
def mK (u : U) : EM U := fun _ S => .ok u S
def mBad {α : Type} : EM α := fun _ _ => .bad
def mNil : EM (List U) := fun _ S => .ok [] S
def mCons (a : EM U) (r : EM (List U)) : EM (List U) := fun e S => (a e S).bind fun u S1 => (r e S1).bind fun us S2 => .ok (u :: us) S2

section
variable {X : Cx} {C : Ct} {W : WX} {a b c : Expr} {ma mb mc : EM U} {pos : Pos}
theorem tOp_of {f : U → U → Sto → Option (U × Sto)} {σ : St} {H : Hp} {Q : VK} (t : tE C W (mOp f ma mb) σ H Q) : tOp (rB C f) (tE C W ma) (tE C W mb) σ H Q := by
  obtain ⟨w, env, S, at_, p⟩ := t
  refine tE_mono (fun x H1 h => ?_) (tE_of at_ p)
  obtain ⟨w1, u, S1, at1, l1, r1, p1⟩ := h
  refine tE_mono (fun y H2 h => ?_) (tE_of at1 p1)
  obtain ⟨w2, v, S2, at2, l2, r2, p2⟩ := h
  exact ⟨w2, u, v, S2, at2.h, at2.s, r1.le l2, r2, PsO_of p2⟩
theorem eOp {op : Operator} {f : U → U → Sto → Option (U × Sto)} (ho : OpR X (binaryOp op) (rB C f)) (ha : PE X a (tE C W ma)) (hb : PE X b (tE C W mb)) : PE X (.BinOp a op b pos) (tE C W (mOp f ma mb)) :=
  PE_imp (pe_op ho ha hb) fun _ _ _ t => tOp_of t
theorem eCmp {op : CmpOp} {f : U → U → Sto → Option (U × Sto)} (ho : OpR X (compareOp op) (rB C f)) (ha : PE X a (tE C W ma)) (hb : PE X b (tE C W mb)) (hm : behindInMarks op b = false) : PE X (.Compare a [op] [b] pos) (tE C W (mOp f ma mb)) :=
  PE_imp (pe_cmpR ho ha hb hm) fun _ _ _ t => tOp_of t
def asB (m : EM U) : EM Bool := fun e S => (m e S).bind fun u S1 => match u with
  | .bl k => .ok k S1
  | _ => .bad
theorem tTest_of {m : EM U} {σ : St} {H : Hp} {Q : Bool → Hp → Prop} (t : tT C W (asB m) σ H Q) : tE C W m σ H fun x H' => ∃ k, x = .bl k ∧ Q k H' := by
  obtain ⟨w, env, S, at_, p⟩ := t
  refine tE_mono (fun x H1 h => ?_) (tE_of at_ p)
  obtain ⟨w1, u, S1, at1, l1, r1, p1⟩ := h
  cases r1 with
  | bl k => exact ⟨k, rfl, by rw [← at1.h]; exact p1.ok (Le.refl _) at1.s rfl⟩
  | _ => exact p1.elim
theorem tCmp {op : CmpOp} {f : U → U → Sto → Option (U × Sto)} (ho : OpR X (compareOp op) (rB C f)) (ha : PE X a (tE C W ma)) (hb : PE X b (tE C W mb)) (hm : behindInMarks op b = false) : PT X (.Compare a [op] [b] pos) (tT C W (asB (mOp f ma mb))) :=
  PT_imp (pt_cmpR ho ha hb hm) fun _ _ Q t => by
    have h := tTest_of t
    exact tOp_of h
theorem eUn {op : UnaryOp} {f : U → Sto → Option (U × Sto)} (ho : UnR X (unaryOp op) (rU1 C f)) (ha : PE X a (tE C W ma)) : PE X (.UnaryOp op a pos) (tE C W (mUn f ma)) :=
  PE_imp (pe_un ho ha) fun _ _ _ ⟨w, env, S, at_, p⟩ => tE_mono (fun x H1 ⟨w1, u, S1, at1, l1, r1, p1⟩ => ⟨w1, u, S1, at1.h, at1.s, r1, PsO_of p1⟩) (tE_of at_ p)
/-- a op b op c -/
def mChain (f g : U → U → Sto → Option (U × Sto)) (a b c : EM U) : EM U := fun e S => (a e S).bind fun u S1 => (b e S1).bind fun v S2 => (lift (f u v S2)).bind fun z S3 => match z with
  | .bl true => (c e S3).bind fun y S4 => lift (g v y S4)
  | .bl false => .ok (.bl false) S3
  | _ => .bad
theorem PsO_bind {w : Wd} {o : Option (U × Sto)} {f : U → Sto → Rs U} {Q : VK} {σ : St} (p : Ps C W σ w ((lift o).bind f) (RV C) Q) : PsO C w o (fun z H1 => ∃ w1 u S1, w1.H = H1 ∧ Le w w1 ∧ Sim C w1 S1 ∧ RV C w1 u z ∧ Ps C W σ w1 (f u S1) (RV C) Q) := by
  cases o with
  | none => exact p
  | some x => exact fun w' v l s r => ⟨w', x.1, x.2, rfl, l, s, r, p.le l⟩
theorem tChain_of {f g : U → U → Sto → Option (U × Sto)} {σ : St} {H : Hp} {Q : VK} (t : tE C W (mChain f g ma mb mc) σ H Q) : tChain (rB C f) (rB C g) (tE C W ma) (tE C W mb) (tE C W mc) σ H Q := by
  obtain ⟨w, env, S, at_, p⟩ := t
  refine tE_mono (fun x H1 h => ?_) (tE_of at_ p)
  obtain ⟨w1, u, S1, at1, l1, r1, p1⟩ := h
  refine tE_mono (fun y H2 h => ?_) (tE_of at1 p1)
  obtain ⟨w2, v, S2, at2, l2, r2, p2⟩ := h
  have q2 := PsO_bind p2
  refine ⟨w2, u, v, S2, at2.h, at2.s, r1.le l2, r2, ?_⟩
  cases ho : f u v S2 with
  | none => rw [ho] at q2; exact q2
  | some z =>
    rw [ho] at q2
    intro w3 z' l3 s3 r3
    obtain ⟨w3', u3, S3, e3, l3', s3', r3', p3⟩ := q2 w3 z' l3 s3 r3
    cases r3' with
    | bl k =>
      refine ⟨k, rfl, ?_⟩
      cases k with
      | true =>
        rw [if_pos rfl]
        have at3 : At C w3' env S3 σ w3.H := by rw [← e3]; exact at2.go l3' s3'
        refine tE_mono (fun y H4 h => ?_) (tE_of at3 p3)
        obtain ⟨w4, y4, S4, at4, l4, r4, p4⟩ := h
        exact ⟨w4, v, y4, S4, at4.h, at4.s, (r2.le l3').le l4, r4, PsO_of p4⟩
      | false =>
        rw [if_neg (by decide)]
        rw [← e3]
        exact p3.ok (Le.refl _) s3' (.bl false)
    | _ => exact p3.elim
theorem eChain {op op' : CmpOp} {f g : U → U → Sto → Option (U × Sto)} (ho : OpR X (compareOp op) (rB C f)) (ho' : OpR X (compareOp op') (rB C g)) (ha : PE X a (tE C W ma)) (hb : PE X b (tE C W mb)) (hc : PE X c (tE C W mc))
    (hm : lastMarks [op, op'] [b, c] = false := by with_unfolding_all rfl) : PE X (.Compare a [op, op'] [b, c] pos) (tE C W (mChain f g ma mb mc)) :=
  PE_imp (pe_chain ho ho' ha hb hc hm) fun _ _ _ t => tChain_of t
theorem tChainT {op op' : CmpOp} {f g : U → U → Sto → Option (U × Sto)} (ho : OpR X (compareOp op) (rB C f)) (ho' : OpR X (compareOp op') (rB C g)) (ha : PE X a (tE C W ma)) (hb : PE X b (tE C W mb)) (hc : PE X c (tE C W mc))
    (hm : lastMarks [op, op'] [b, c] = false := by with_unfolding_all rfl) : PT X (.Compare a [op, op'] [b, c] pos) (tT C W (asB (mChain f g ma mb mc))) :=
  PT_imp (pt_chain ho ho' ha hb hc hm) fun _ _ _ t => tChain_of (tTest_of t)

/-! names, constants -/
theorem eVar (i : Nat) {x : Str} (hN : X.N[i]? = some x := by rfl) (hv : Vis X.env.scope x := by first | exact Or.inl rfl | exact Or.inr (Or.inl rfl) | exact Or.inr (Or.inr rfl)) (hd : (x == ("__debug__" : Str)) = false := by decide)
    (hcd : (x == ("__classdict__" : Str)) = false := by decide) : PE X (.Name x pos) (tE C W (mVar i)) := by
  refine PE_imp (pe_var hN hv hd hcd) fun σ H Q ⟨w, env, S, a, p⟩ => ?_
  unfold mVar at p
  split at p
  · rename_i u hu
    obtain ⟨v, h1, r⟩ := a.e.get hu
    exact ⟨v, h1, by rw [← a.h]; exact p.ok (Le.refl _) a.s r⟩
  · exact p.elim
theorem tC_of {u : U} {v : V} {σ : St} {H : Hp} {Q : VK} (r : ∀ w, RV C w u v) (t : tE C W (mK u) σ H Q) : tC v σ H Q := by
  obtain ⟨w, env, S, a, p⟩ := t
  show Q v H
  rw [← a.h]
  exact p.ok (Le.refl _) a.s (r w)
theorem eInt {i : Int} {j} : PE X (.Constant (.int i) j pos) (tE C W (mK (.int i))) := PE_imp pe_int fun _ _ _ t => tC_of (fun _ => .int i) t
theorem eBl {i : Bool} {j} : PE X (.Constant (.bool i) j pos) (tE C W (mK (.bl i))) := PE_imp pe_bl fun _ _ _ t => tC_of (fun _ => .bl i) t
theorem eNon {j} : PE X (.Constant .none j pos) (tE C W (mK .non)) := PE_imp pe_non fun _ _ _ t => tC_of (fun _ => .non) t
theorem eStr (l : List Nat) {x : Str} {j} (h : toS l = x) : PE X (.Constant (.str x) j pos) (tE C W (mK (.str l))) := by
  subst h
  exact PE_imp pe_str fun _ _ _ t => tC_of (fun _ => .str l) t
/-- a def or class of the text, as a value -/
theorem eFn (i : Nat) {x : Str} (hg : Gl X x) (hm : X.mg x = some (.ref (C.adr i))) (hd : (x == ("__debug__" : Str)) = false := by decide) : PE X (.Name x pos) (tE C W (mK (.fn i))) :=
  PE_imp (pe_glob (v := .ref (C.adr i)) hg hm rfl hd) fun _ _ _ t => tC_of (fun _ => .fn i) t
theorem eGInt {x : Str} {i : Int} (hg : Gl X x) (hm : ∃ t, X.mg x = some (.int i t)) (hd : (x == ("__debug__" : Str)) = false := by decide) : PE X (.Name x pos) (tE C W (mK (.int i))) :=
  let ⟨t, h⟩ := hm
  PE_imp (pe_glob (v := .int i) hg h ⟨t, rfl⟩ hd) fun _ _ _ t => tC_of (fun _ => .int i) t
theorem eGStr {x : Str} (l : List Nat) (hg : Gl X x) (hm : ∃ t, X.mg x = some (.str (toS l) t)) (hd : (x == ("__debug__" : Str)) = false := by decide) : PE X (.Name x pos) (tE C W (mK (.str l))) :=
  let ⟨t, h⟩ := hm
  PE_imp (pe_glob (v := .str (toS l)) hg h ⟨t, rfl⟩ hd) fun _ _ _ t => tC_of (fun _ => .str l) t
/-- what is never come to -/
theorem eBad {e : Expr} : PE X e (tE C W mBad) := ⟨fun _ _ _ _ _ _ t => by obtain ⟨_, _, _, _, p⟩ := t; exact p.elim⟩
theorem tBad {e : Expr} : PT X e (tT C W mBad) := ⟨fun _ _ _ _ _ _ t => by obtain ⟨_, _, _, _, p⟩ := t; exact p.elim⟩

/-! arguments -/
theorem aNil : PA X [] (tA C W mNil) := PA_imp pa_nil fun _ H Q ⟨w, env, S, a, p⟩ => by
  show Q [] H
  rw [← a.h]
  exact p.ok (Le.refl _) a.s .nil
theorem aCons {e : Expr} {es : List Expr} {m : EM U} {ms : EM (List U)} (ha : PE X e (tE C W m)) (hr : PA X es (tA C W ms)) (hs : starEach (e :: es) X.env = (false, eval e X.env) :: starEach es X.env := by rfl) : PA X (e :: es) (tA C W (mCons m ms)) :=
  PA_imp (pa_cons ha hr hs) fun σ H Q ⟨w, env, S, a, p⟩ => tE_mono (fun x H1 ⟨w1, u, S1, at1, l1, r1, p1⟩ => tA_mono (fun xs H2 ⟨w2, us, S2, at2, l2, r2, p2⟩ => by
    rw [← at2.h]; exact p2.ok (Le.refl _) at2.s (.cons (r1.le l2) r2)) (tA_of at1 p1)) (tE_of a p)
def mTup (m : EM (List U)) : EM U := fun e S => (m e S).bind fun us S1 => if us.length ≤ sizeLine then .ok (.tup us) S1 else .bad
def mLst (m : EM (List U)) : EM U := fun e S => (m e S).bind fun us S1 => if us.length ≤ sizeLine then .ok (.ref S1.length) (S1 ++ [.lst us]) else .bad
theorem eTup {es : List Expr} {ms : EM (List U)} {x1} (h : PA X es (tA C W ms)) : PE X (.Tuple es x1 pos) (tE C W (mTup ms)) :=
  PE_imp (pe_tup h) fun σ H Q ⟨w, env, S, a, p⟩ => tA_mono (fun xs H1 ⟨w1, us, S1, at1, l1, r1, p1⟩ => by
    split at p1
    · rename_i hz
      refine ⟨by rw [← r1.length]; exact hz, fun q hq => ?_⟩
      rw [← at1.h] at hq ⊢
      obtain ⟨s2, l2⟩ := at1.s.upd (o := .tup xs) hq
      exact p1.ok l2 s2 (.tup upd_same (r1.le l2))
    · exact p1.elim) (tA_of a p)
theorem eLst {es : List Expr} {ms : EM (List U)} (h : PA X es (tA C W ms)) : PE X (.List es pos) (tE C W (mLst ms)) :=
  PE_imp (pe_lst h) fun σ H Q ⟨w, env, S, a, p⟩ => tA_mono (fun xs H1 ⟨w1, us, S1, at1, l1, r1, p1⟩ => by
    split at p1
    · rename_i hz
      refine ⟨by rw [← r1.length]; exact hz, fun q hq => ?_⟩
      rw [← at1.h] at hq ⊢
      obtain ⟨s2, l2⟩ := at1.s.new (o := .lst xs) (c := .lst us) hq fun w' l e => ⟨xs, by rw [e]; exact upd_same, r1.le l⟩
      refine p1.ok l2 s2 ?_
      have e0 : V.ref q = V.ref ((fun i => if i = w1.n then q else w1.rho i) S1.length) := by simp [at1.s.len]
      rw [e0]
      exact .ref (by show S1.length < w1.n + 1; rw [at1.s.len]; exact Nat.lt_succ_self _)
    · exact p1.elim) (tA_of a p)

/-! and, or, not, if -/
def mAnd (a b : EM U) : EM U := fun e S => (a e S).bind fun u S1 => match u with
  | .bl true => b e S1
  | .bl false => .ok (.bl false) S1
  | _ => .bad
def mOr (a b : EM U) : EM U := fun e S => (a e S).bind fun u S1 => match u with
  | .bl true => .ok (.bl true) S1
  | .bl false => b e S1
  | _ => .bad
def mNot (a : EM U) : EM U := fun e S => (a e S).bind fun u S1 => match u with
  | .bl k => .ok (.bl (!k)) S1
  | _ => .bad
def mIf (t : EM Bool) (a b : EM U) : EM U := fun e S => (t e S).bind fun k S1 => match k with
  | true => a e S1
  | false => b e S1
theorem eOne {op} {m : EM U} (h : PE X a (tE C W m)) : PE X (.BoolOp op [a] pos) (tE C W m) := pe_one h
theorem eAnd {rest : List Expr} (ha : PE X a (tE C W ma)) (hb : PE X (.BoolOp .And (b :: rest) pos) (tE C W mb)) : PE X (.BoolOp .And (a :: b :: rest) pos) (tE C W (mAnd ma mb)) :=
  PE_imp (pe_and ha hb) fun σ H Q ⟨w, env, S, a, p⟩ => tE_mono (fun x H1 ⟨w1, u, S1, at1, l1, r1, p1⟩ => by
    cases r1 with
    | bl k =>
      refine ⟨k, rfl, ?_⟩
      cases k with
      | true => rw [if_pos rfl]; exact ⟨w1, env, S1, at1, p1⟩
      | false => rw [if_neg (by decide), ← at1.h]; exact p1.ok (Le.refl _) at1.s (.bl false)
    | _ => exact p1.elim) (tE_of a p)
theorem eOr {rest : List Expr} (ha : PE X a (tE C W ma)) (hb : PE X (.BoolOp .Or (b :: rest) pos) (tE C W mb)) : PE X (.BoolOp .Or (a :: b :: rest) pos) (tE C W (mOr ma mb)) :=
  PE_imp (pe_or ha hb) fun σ H Q ⟨w, env, S, a, p⟩ => tE_mono (fun x H1 ⟨w1, u, S1, at1, l1, r1, p1⟩ => by
    cases r1 with
    | bl k =>
      refine ⟨k, rfl, ?_⟩
      cases k with
      | false => rw [if_neg (by decide)]; exact ⟨w1, env, S1, at1, p1⟩
      | true => rw [if_pos rfl, ← at1.h]; exact p1.ok (Le.refl _) at1.s (.bl true)
    | _ => exact p1.elim) (tE_of a p)
theorem eNot (ha : PE X a (tE C W ma)) : PE X (.UnaryOp .Not a pos) (tE C W (mNot ma)) :=
  PE_imp (pe_not ha) fun σ H Q ⟨w, env, S, a, p⟩ => tE_mono (fun x H1 ⟨w1, u, S1, at1, l1, r1, p1⟩ => by
    cases r1 with
    | bl k => exact ⟨k, rfl, by rw [← at1.h]; exact p1.ok (Le.refl _) at1.s (.bl _)⟩
    | _ => exact p1.elim) (tE_of a p)
theorem eIf {t : Expr} {mt : EM Bool} (hc : PT X t (tT C W mt)) (ha : PE X a (tE C W ma)) (hb : PE X b (tE C W mb)) : PE X (.IfExp t a b pos) (tE C W (mIf mt ma mb)) :=
  PE_imp (pe_ifExp hc ha hb) fun σ H Q ⟨w, env, S, a, p⟩ => tT_mono (fun k H1 ⟨w1, S1, at1, l1, p1⟩ => by
    cases k with
    | true => rw [if_pos rfl]; exact ⟨w1, env, S1, at1, p1⟩
    | false => rw [if_neg (by decide)]; exact ⟨w1, env, S1, at1, p1⟩) (tT_of a p)
/-! tests -/
def tmAnd (a b : EM Bool) : EM Bool := fun e S => (a e S).bind fun u S1 => match u with
  | true => b e S1
  | false => .ok false S1
def tmOr (a b : EM Bool) : EM Bool := fun e S => (a e S).bind fun u S1 => match u with
  | true => .ok true S1
  | false => b e S1
def tmNot (a : EM Bool) : EM Bool := fun e S => (a e S).bind fun u S1 => .ok (!u) S1
variable {ta tb : EM Bool} {rest : List Expr}
theorem wAnd1 (ha : PT X a (tT C W ta)) : PW X (.BoolOp .And [a] pos) (tT C W ta) := pw_and1 ha
theorem wOr1 (ha : PT X a (tT C W ta)) : PW X (.BoolOp .Or [a] pos) (tT C W ta) := pw_or1 ha
theorem wAnd (ha : PT X a (tT C W ta)) (hb : PW X (.BoolOp .And (b :: rest) pos) (tT C W tb)) : PW X (.BoolOp .And (a :: b :: rest) pos) (tT C W (tmAnd ta tb)) :=
  PW_imp (pw_and ha hb) fun σ H Q ⟨w, env, S, a, p⟩ => tT_mono (fun k H1 ⟨w1, S1, at1, l1, p1⟩ => by
    cases k with
    | true => rw [if_pos rfl]; exact ⟨w1, env, S1, at1, p1⟩
    | false => rw [if_neg (by decide), ← at1.h]; exact p1.ok (Le.refl _) at1.s rfl) (tT_of a p)
theorem wOr (ha : PT X a (tT C W ta)) (hb : PW X (.BoolOp .Or (b :: rest) pos) (tT C W tb)) : PW X (.BoolOp .Or (a :: b :: rest) pos) (tT C W (tmOr ta tb)) :=
  PW_imp (pw_or ha hb) fun σ H Q ⟨w, env, S, a, p⟩ => tT_mono (fun k H1 ⟨w1, S1, at1, l1, p1⟩ => by
    cases k with
    | false => rw [if_neg (by decide)]; exact ⟨w1, env, S1, at1, p1⟩
    | true => rw [if_pos rfl, ← at1.h]; exact p1.ok (Le.refl _) at1.s rfl) (tT_of a p)
theorem tNot' (ha : PT X a (tT C W ta)) : PT X (.UnaryOp .Not a pos) (tT C W (tmNot ta)) :=
  PT_imp (pt_not ha) fun σ H Q ⟨w, env, S, a, p⟩ => tT_mono (fun k H1 ⟨w1, S1, at1, l1, p1⟩ => by
    rw [← at1.h]; exact p1.ok (Le.refl _) at1.s rfl) (tT_of a p)
/-- by truth -/
def truU (u : U) (S : Sto) : Option Bool := match u with
  | .non => some false
  | .bl b => some b
  | .int i => some (i != 0)
  | .tup xs => some (!xs.isEmpty)
  | .ref n => match S[n]? with
    | some (.lst xs) => some (!xs.isEmpty)
    | some (.rom xs) => some (!xs.isEmpty)
    | some (.dic xs) => some (!xs.isEmpty)
    | _ => none
  | _ => none
def mTru (m : EM U) : EM Bool := fun e S => (m e S).bind fun u S1 => match truU u S1 with
  | some k => .ok k S1
  | none => .bad
theorem isEmpty_len {α β : Type} {xs : List α} {ys : List β} (h : xs.length = ys.length) : xs.isEmpty = ys.isEmpty := by
  cases xs <;> cases ys <;> simp_all
theorem truU_ok {K : PySem.W.Frag} {w : Wd} {S : Sto} {u : U} {v : V} {k : Bool} (s : Sim C w S) (r : RV C w u v) (h : truU u S = some k) : TruV K v w.H k := by
  cases r with
  | non => exact (Option.some.inj h).symm
  | bl b => exact (Option.some.inj h).symm
  | int i => exact (Option.some.inj h).symm
  | str x => cases h
  | tup e rs => exact .inr (.inl ⟨_, SqT.of e, by rw [← isEmpty_len rs.length]; exact (Option.some.inj h).symm⟩)
  | ref hi =>
    rename_i i
    unfold truU at h
    simp only at h
    split at h
    · rename_i xs e
      obtain ⟨vs, e', rs⟩ := s.cell _ _ e
      exact .inl ⟨_, SqL.of e', by rw [← isEmpty_len rs.length]; exact (Option.some.inj h).symm⟩
    · rename_i xs e
      obtain ⟨o, vs, e', rs⟩ := s.cell _ _ e
      exact .inl ⟨vs, .inl (.inr ⟨o, e'⟩), by rw [← isEmpty_len rs.length]; exact (Option.some.inj h).symm⟩
    · rename_i xs e
      obtain ⟨vs, e', rs⟩ := s.cell _ _ e
      exact .inr (.inr ⟨vs, e', by rw [← isEmpty_len rs.length]; exact (Option.some.inj h).symm⟩)
    · cases h
  | fn i => cases h
  | lam => cases h
  | scr => cases h
theorem tTru (ha : PE X a (tE C W ma)) (he : ∀ whole, isTrue a X.env whole = (do let v ← whole; standAt a.pos; holding [v] (truthy v)) := by intro _; rfl) : PT X a (tT C W (mTru ma)) :=
  PT_imp (pt_truth ha he) fun σ H Q ⟨w, env, S, a, p⟩ => tE_mono (fun x H1 ⟨w1, u, S1, at1, l1, r1, p1⟩ => by
    split at p1
    · rename_i k hk
      exact ⟨k, by rw [← at1.h]; exact truU_ok at1.s r1 hk, by rw [← at1.h]; exact p1.ok (Le.refl _) at1.s rfl⟩
    · exact p1.elim) (tE_of a p)
end
end OD
end

section
set_option Elab.async false
set_option linter.all false
set_option autoImplicit false
set_option maxRecDepth 100000
set_option maxHeartbeats 4000000
/-! OD3: operations by values -/
namespace OD
open PySem L2

theorem toS_app (a b : List Nat) : toS a ++ toS b = toS (a ++ b) := by
  show (⟨a.toArray ++ b.toArray⟩ : Str) = ⟨(a ++ b).toArray⟩
  simp
theorem toS_len (a : List Nat) : (toS a).length = a.length := by
  show a.toArray.size = _
  simp
theorem toS_inj {a b : List Nat} (h : toS a = toS b) : a = b := by
  have e := congrArg (fun s => Str.cps s) h
  simpa [toS] using e
theorem toS_list (a : List Nat) : (toS a).cps.toList = a := by simp [toS]

/-! ### data -/
mutual
def toD : U → Option PyData
  | .non => some .none
  | .bl b => some (.bool b)
  | .int i => some (.int i)
  | .str s => some (.str (toS s))
  | .tup xs => match toDs xs with
    | some ds => some (.tuple ds)
    | none => none
  | .ref _ => none
  | .fn _ => none
  | .lam _ _ => none
  | .scr _ => none
def toDs : List U → Option (List PyData)
  | [] => some []
  | x :: xs => match toD x, toDs xs with
    | some d, some ds => some (d :: ds)
    | _, _ => none
end
def toDS (S : Sto) (u : U) : Option PyData := match u with
  | .ref i => match S[i]? with
    | some (.lst xs) => (toDs xs).map PyData.list
    | some (.rom xs) => (toDs xs).map PyData.list
    | _ => none
  | u => toD u
section
variable {C : Ct} {w : Wd} {K : PySem.W.Frag} {S : Sto}
mutual
theorem toD_ok : ∀ {u : U} {v : V} {d : PyData}, RV C w u v → toD u = some d → Dp K w.H v d
  | _, _, _, .non, h => by simp only [toD] at h; cases h; exact .non
  | _, _, _, .bl b, h => by simp only [toD] at h; cases h; exact .bl b
  | _, _, _, .int i, h => by simp only [toD] at h; cases h; exact .int i
  | _, _, _, .str s, h => by simp only [toD] at h; cases h; exact .str _
  | _, _, _, .tup (xs := xs) e r, h => by
    simp only [toD] at h
    cases q : toDs xs with
    | none => rw [q] at h; cases h
    | some ds => rw [q] at h; cases h; exact .tup (SqT.of e) (toDs_ok r q)
  | _, _, _, .ref _, h => by simp only [toD] at h; cases h
  | _, _, _, .fn _, h => by simp only [toD] at h; cases h
  | _, _, _, .lam, h => by simp only [toD] at h; cases h
  | _, _, _, .scr, h => by simp only [toD] at h; cases h
theorem toDs_ok : ∀ {us : List U} {vs : List V} {ds : List PyData}, RVs C w us vs → toDs us = some ds → DpAll K w.H vs ds
  | _, _, _, .nil, h => by simp only [toDs] at h; cases h; exact .nil
  | _, _, _, .cons (u := u) (us := us) r t, h => by
    simp only [toDs] at h
    cases q : toD u with
    | none => rw [q] at h; cases h
    | some d =>
      cases q' : toDs us with
      | none => rw [q, q'] at h; cases h
      | some ds => rw [q, q'] at h; cases h; exact .cons (toD_ok r q) (toDs_ok t q')
end
theorem toDS_ok {u : U} {v : V} {d : PyData} (s : Sim C w S) (r : RV C w u v) (h : toDS S u = some d) : Dp K w.H v d := by
  cases r with
  | ref hi =>
    rename_i i
    unfold toDS at h
    simp only at h
    split at h
    · rename_i xs e
      obtain ⟨vs, e', rs⟩ := s.cell _ _ e
      cases q : toDs xs with
      | none => rw [q] at h; cases h
      | some ds => rw [q] at h; cases h; exact .lst (SqL.of e') (toDs_ok rs q)
    · rename_i xs e
      obtain ⟨o, vs, e', rs⟩ := s.cell _ _ e
      cases q : toDs xs with
      | none => rw [q] at h; cases h
      | some ds => rw [q] at h; cases h; exact .lst (.inl (.inr ⟨o, e'⟩)) (toDs_ok rs q)
    · cases h
  | non => exact toD_ok (RV.non (C := C)) h
  | bl b => exact toD_ok (RV.bl (C := C) b) h
  | int b => exact toD_ok (RV.int (C := C) b) h
  | str b => exact toD_ok (RV.str (C := C) b) h
  | tup e rs => exact toD_ok (.tup e rs) h
  | fn i => exact toD_ok (RV.fn (C := C) i) h
  | lam => cases h
  | scr => cases h
end
def fEq (u v : U) (S : Sto) : Option (U × Sto) := match u, v with
  | .int a, .int b => some (.bl (a == b), S)
  | .str a, .str b => some (.bl (a == b), S)
  | .bl a, .bl b => some (.bl (a == b), S)
  | u, v => match toDS S u, toDS S v with
    | some d, some e => if SeqAt.shaped d && SeqAt.shaped e then some (.bl (PyData.eqv d e), S) else none
    | _, _ => none
def negO (o : Option (U × Sto)) : Option (U × Sto) := match o with
  | some (.bl b, S) => some (.bl (!b), S)
  | _ => none
def fNe (u v : U) (S : Sto) : Option (U × Sto) := negO (fEq u v S)

section
variable {X : Cx} {C : Ct} {w : Wd} {S : Sto} {Q : VK}
theorem PsO.go {o : Option (U × Sto)} {u : U} {v : V} {w' : Wd} {S' : Sto} (p : PsO C w o Q) (e : o = some (u, S')) (l : Le w w') (s : Sim C w' S') (r : RV C w' u v) : Q v w'.H := by
  subst e
  exact p w' v l s r
theorem PsO.pure {o : Option (U × Sto)} {u : U} {v : V} {H : Hp} (p : PsO C w o Q) (e : o = some (u, S)) (hH : w.H = H) (s : Sim C w S) (r : RV C w u v) : Q v H := by
  subst hH
  exact p.go e (Le.refl _) s r

theorem str_beq (a b : List Nat) : (decide (V.str (toS a) = V.str (toS b))) = (a == b) := by
  by_cases h : a = b
  · subst h; simp
  · rw [decide_eq_false (fun q => h (toS_inj (V.str.inj q)))]
    exact (beq_eq_false_iff_ne.mpr h).symm
theorem opEq (hu : X.A.units + 64 < cLine) : OpR X (compareOp .Eq) (rB C fEq) := by
  intro pins s σ H x y v u Q I rx ry ⟨w, a, b, S, e, sm, ra, rb, p⟩
  have gen : ∀ d e', toDS S a = some d → toDS S b = some e' → (PsO C w (if SeqAt.shaped d && SeqAt.shaped e' then some (.bl (PyData.eqv d e'), S) else none) Q) →
      wpAny (model X.prog X.w) X.A (compareOp .Eq v u) (EP X pins σ Q) X.xe s := fun d e' hd he p => by
    by_cases hs : (SeqAt.shaped d && SeqAt.shaped e') = true
    · rw [if_pos hs] at p
      rw [Bool.and_eq_true] at hs
      refine op_eqD hu pins s σ H x y v u Q I rx ry ⟨d, e', ?_, ?_, hs.1, hs.2, p.pure rfl e sm (.bl _)⟩
      · rw [← e]; exact toDS_ok sm ra hd
      · rw [← e]; exact toDS_ok sm rb he
    · rw [if_neg hs] at p; exact p.elim
  have gen2 : PsO C w (match toDS S a, toDS S b with
    | some d, some e => if SeqAt.shaped d && SeqAt.shaped e then some (.bl (PyData.eqv d e), S) else none
    | _, _ => none) Q → wpAny (model X.prog X.w) X.A (compareOp .Eq v u) (EP X pins σ Q) X.xe s := fun p => by
    cases hd : toDS S a with
    | none => rw [hd] at p; exact p.elim
    | some d =>
      cases he : toDS S b with
      | none => rw [hd, he] at p; exact p.elim
      | some e' => rw [hd, he] at p; exact gen d e' hd he p
  unfold fEq at p
  split at p
  · cases ra; cases rb
    exact op_eq pins s σ H _ _ v u Q I rx ry ⟨rfl, by rw [dec_int]; exact p.pure rfl e sm (.bl _)⟩
  · cases ra; cases rb
    exact op_eq pins s σ H _ _ v u Q I rx ry ⟨rfl, by rw [str_beq]; exact p.pure rfl e sm (.bl _)⟩
  · cases ra; cases rb
    exact op_eq pins s σ H _ _ v u Q I rx ry ⟨rfl, by rw [dec_bl]; exact p.pure rfl e sm (.bl _)⟩
  · exact gen2 p
theorem opNe (hu : X.A.units + 64 < cLine) : OpR X (compareOp .NotEq) (rB C fNe) := by
  intro pins s σ H x y v u Q I rx ry ⟨w, a, b, S, e, sm, ra, rb, p⟩
  have gen : ∀ d e', toDS S a = some d → toDS S b = some e' → (PsO C w (negO (if SeqAt.shaped d && SeqAt.shaped e' then some (.bl (PyData.eqv d e'), S) else none)) Q) →
      wpAny (model X.prog X.w) X.A (compareOp .NotEq v u) (EP X pins σ Q) X.xe s := fun d e' hd he p => by
    by_cases hs : (SeqAt.shaped d && SeqAt.shaped e') = true
    · rw [if_pos hs] at p
      rw [Bool.and_eq_true] at hs
      refine op_neD hu pins s σ H x y v u Q I rx ry ⟨d, e', ?_, ?_, hs.1, hs.2, p.pure rfl e sm (.bl _)⟩
      · rw [← e]; exact toDS_ok sm ra hd
      · rw [← e]; exact toDS_ok sm rb he
    · rw [if_neg hs] at p; exact p.elim
  have gen2 : PsO C w (negO (match toDS S a, toDS S b with
    | some d, some e => if SeqAt.shaped d && SeqAt.shaped e then some (.bl (PyData.eqv d e), S) else none
    | _, _ => none)) Q → wpAny (model X.prog X.w) X.A (compareOp .NotEq v u) (EP X pins σ Q) X.xe s := fun p => by
    cases hd : toDS S a with
    | none => rw [hd] at p; exact p.elim
    | some d =>
      cases he : toDS S b with
      | none => rw [hd, he] at p; exact p.elim
      | some e' => rw [hd, he] at p; exact gen d e' hd he p
  unfold fNe fEq at p
  split at p
  · cases ra; cases rb
    exact op_ne pins s σ H _ _ v u Q I rx ry ⟨rfl, by rw [dec_int]; exact p.pure rfl e sm (.bl _)⟩
  · cases ra; cases rb
    exact op_ne pins s σ H _ _ v u Q I rx ry ⟨rfl, by rw [str_beq]; exact p.pure rfl e sm (.bl _)⟩
  · cases ra; cases rb
    exact op_ne pins s σ H _ _ v u Q I rx ry ⟨rfl, by rw [dec_bl]; exact p.pure rfl e sm (.bl _)⟩
  · exact gen2 p

/-! ### ints, texts, tuples, lists -/
def fAdd (u v : U) (S : Sto) : Option (U × Sto) := match u, v with
  | .int a, .int b => some (.int (a + b), S)
  | .str a, .str b => if a.length + b.length ≤ sizeLine then some (.str (a ++ b), S) else none
  | .tup a, .tup b => if a.length + b.length ≤ sizeLine then some (.tup (a ++ b), S) else none
  | .ref i, .ref j => match S[i]?, S[j]? with
    | some (.lst a), some (.lst b) => if a.length + b.length ≤ sizeLine then some (.ref S.length, S ++ [.lst (a ++ b)]) else none
    | _, _ => none
  | _, _ => none
theorem RVs.nil_l {us : List U} (r : RVs C w us []) : us = [] := by cases r; rfl
theorem RVs.app_nil {us ws : List U} {vs : List V} (r : RVs C w us vs) (t : RVs C w ws []) : RVs C w (us ++ ws) vs := by
  rw [t.nil_l, List.append_nil]; exact r
/-- a new list's value -/
theorem new_ref {q : Addr} {o : HO} (s : Sim C w S) : RV C ⟨fun i => if i = w.n then q else w.rho i, w.n + 1, upd w.H q o⟩ (.ref S.length) (.ref q) := by
  have e0 : V.ref q = V.ref ((fun i => if i = w.n then q else w.rho i) S.length) := by simp [s.len]
  rw [e0]
  exact .ref (by show S.length < w.n + 1; rw [s.len]; exact Nat.lt_succ_self _)
theorem opAdd : OpR X (binaryOp .Add) (rB C fAdd) := by
  intro pins s σ H x y v u Q I rx ry ⟨w, a, b, S, e, sm, ra, rb, p⟩
  subst e
  unfold fAdd at p
  split at p
  · cases ra; cases rb
    exact op_add pins s σ _ _ _ v u Q I rx ry ⟨_, _, rfl, rfl, p.pure rfl rfl sm (.int _)⟩
  · cases ra; cases rb
    split at p
    · rename_i hz
      exact op_add_str pins s σ _ _ _ v u Q I rx ry ⟨_, _, rfl, rfl, by rw [toS_len, toS_len]; exact hz, by rw [toS_app]; exact p.pure rfl rfl sm (.str _)⟩
    · exact p.elim
  · cases ra with
    | tup e1 r1 =>
      cases rb with
      | tup e2 r2 =>
        split at p
        · rename_i hz
          refine op_catA pins s σ _ _ _ v u Q I rx ry ⟨_, _, _, _, rfl, rfl, SqT.of e1, SqT.of e2, by rw [← r1.length, ← r2.length]; exact hz, fun h0 => ?_, fun h0 h1 => ?_, fun h0 h1 q hq => ?_⟩
          · subst h0
            have e3 := r1.nil_l
            subst e3
            exact p.pure rfl rfl sm (.tup e2 r2)
          · subst h1
            exact p.pure rfl rfl sm (.tup e1 (r1.app_nil r2))
          · obtain ⟨s2, l2⟩ := sm.upd (o := .tup (_ ++ _)) hq
            exact p.go rfl l2 s2 (.tup upd_same ((r1.append r2).le l2))
        · exact p.elim
  · rename_i i j
    split at p
    · rename_i xs ys h1 h2
      split at p
      · rename_i hz
        obtain ⟨vs, e1, r1⟩ := sm.cell _ _ h1
        obtain ⟨ws, e2, r2⟩ := sm.cell _ _ h2
        cases ra; cases rb
        refine op_cat pins s σ _ _ _ v u Q I rx ry ⟨_, _, _, _, rfl, rfl, e1, e2, by rw [← r1.length, ← r2.length]; exact hz, fun q hq => ?_⟩
        obtain ⟨s2, l2⟩ := sm.new (o := .lst (vs ++ ws)) (c := .lst (xs ++ ys)) hq fun w' l e => ⟨_, by rw [e]; exact upd_same, (r1.append r2).le l⟩
        exact p.go rfl l2 s2 (new_ref sm)
      · exact p.elim
    · exact p.elim
  · exact p.elim
def fSub (u v : U) (S : Sto) : Option (U × Sto) := match u, v with
  | .int a, .int b => some (.int (a - b), S)
  | _, _ => none
theorem opSub : OpR X (binaryOp .Sub) (rB C fSub) := by
  intro pins s σ H x y v u Q I rx ry ⟨w, a, b, S, e, sm, ra, rb, p⟩
  unfold fSub at p
  split at p
  · cases ra; cases rb
    exact op_sub pins s σ _ _ _ v u Q I rx ry ⟨_, _, rfl, rfl, p.pure rfl e sm (.int _)⟩
  · exact p.elim
def isSmall (a : Int) : Bool := decide (-(2 ^ 64) < a) && decide (a < 2 ^ 64)
def fMul (u v : U) (S : Sto) : Option (U × Sto) := match u, v with
  | .int a, .int b => if isSmall a || isSmall b then some (.int (a * b), S) else none
  | _, _ => none
theorem opMul : OpR X (binaryOp .Mult) (rB C fMul) := by
  intro pins s σ H x y v u Q I rx ry ⟨w, a, b, S, e, sm, ra, rb, p⟩
  unfold fMul at p
  split at p
  · cases ra; cases rb
    split at p
    · rename_i hz
      refine op_mul pins s σ _ _ _ v u Q I rx ry ⟨_, _, rfl, rfl, ?_, p.pure rfl e sm (.int _)⟩
      unfold CMul
      simpa [isSmall] using hz
    · exact p.elim
  · exact p.elim
def fDiv (u v : U) (S : Sto) : Option (U × Sto) := match u, v with
  | .int a, .int b => if 0 < b ∧ b < 1073741824 then some (.int (a / b), S) else none
  | _, _ => none
theorem opDiv : OpR X (binaryOp .FloorDiv) (rB C fDiv) := by
  intro pins s σ H x y v u Q I rx ry ⟨w, a, b, S, e, sm, ra, rb, p⟩
  unfold fDiv at p
  split at p
  · cases ra; cases rb
    split at p
    · rename_i hz
      exact op_fdiv pins s σ _ _ _ v u Q I rx ry ⟨_, _, rfl, rfl, hz, p.pure rfl e sm (.int _)⟩
    · exact p.elim
  · exact p.elim
def fMod (u v : U) (S : Sto) : Option (U × Sto) := match u, v with
  | .int a, .int b => if 0 < b then some (.int (a % b), S) else none
  | _, _ => none
theorem opMod : OpR X (binaryOp .Mod) (rB C fMod) := by
  intro pins s σ H x y v u Q I rx ry ⟨w, a, b, S, e, sm, ra, rb, p⟩
  unfold fMod at p
  split at p
  · cases ra; cases rb
    split at p
    · rename_i hz
      exact op_mod pins s σ _ _ _ v u Q I rx ry ⟨_, _, rfl, rfl, hz, p.pure rfl e sm (.int _)⟩
    · exact p.elim
  · exact p.elim
def fPow (u v : U) (S : Sto) : Option (U × Sto) := match u, v with
  | .int a, .int b => if 0 ≤ b ∧ b ≤ 1000000 ∧ a.natAbs < 2 ^ 64 then some (.int (a ^ b.toNat), S) else none
  | _, _ => none
theorem opPow : OpR X (binaryOp .Pow) (rB C fPow) := by
  intro pins s σ H x y v u Q I rx ry ⟨w, a, b, S, e, sm, ra, rb, p⟩
  unfold fPow at p
  split at p
  · cases ra; cases rb
    split at p
    · rename_i hz
      exact op_pow pins s σ _ _ _ v u Q I rx ry ⟨_, _, rfl, rfl, hz, p.pure rfl e sm (.int _)⟩
    · exact p.elim
  · exact p.elim
def fNeg (u : U) (S : Sto) : Option (U × Sto) := match u with
  | .int a => some (.int (-a), S)
  | _ => none
theorem unNeg : UnR X (unaryOp .USub) (rU1 C fNeg) := by
  intro pins s σ H x v Q I rx ⟨w, a, S, e, sm, ra, p⟩
  unfold fNeg at p
  split at p
  · cases ra
    exact un_neg pins s σ _ _ v Q I rx ⟨_, rfl, p.pure rfl e sm (.int _)⟩
  · exact p.elim
def fCmp (g : Int → Int → Bool) (u v : U) (S : Sto) : Option (U × Sto) := match u, v with
  | .int a, .int b => some (.bl (g a b), S)
  | _, _ => none
theorem opCmpI {op : CmpOp} {g : Int → Int → Bool} (h : OpR X (compareOp op) (rI0 fun i j => .bl (g i j))) : OpR X (compareOp op) (rB C (fCmp g)) := by
  intro pins s σ H x y v u Q I rx ry ⟨w, a, b, S, e, sm, ra, rb, p⟩
  unfold fCmp at p
  split at p
  · cases ra; cases rb
    exact h pins s σ _ _ _ v u Q I rx ry ⟨_, _, rfl, rfl, p.pure rfl e sm (.bl _)⟩
  · exact p.elim
abbrev fLt := fCmp fun i j => decide (i < j)
abbrev fLe := fCmp fun i j => decide (i ≤ j)
abbrev fGt := fCmp fun i j => decide (j < i)
abbrev fGe := fCmp fun i j => decide (j ≤ i)
theorem opLt : OpR X (compareOp .Lt) (rB C fLt) := opCmpI op_lt
theorem opLe : OpR X (compareOp .LtE) (rB C fLe) := opCmpI op_le
theorem opGt : OpR X (compareOp .Gt) (rB C fGt) := opCmpI op_gt
theorem opGe : OpR X (compareOp .GtE) (rB C fGe) := opCmpI op_ge
/-- is None, is not None -/
def isNon : U → Option Bool
  | .non => some true
  | .lam _ _ => some false
  | _ => some false
def fIsN (u v : U) (S : Sto) : Option (U × Sto) := match v with
  | .non => match u with
    | .non => some (.bl true, S)
    | _ => some (.bl false, S)
  | _ => none
def fIsNN (u v : U) (S : Sto) : Option (U × Sto) := match v with
  | .non => match u with
    | .non => some (.bl false, S)
    | _ => some (.bl true, S)
  | _ => none
theorem RV.not_non {u : U} {v : V} (r : RV C w u v) (h : u ≠ .non) : v ≠ .non := by
  intro q; subst q; cases r; exact h rfl
theorem opIsN : OpR X (compareOp .Is) (rB C fIsN) := by
  intro pins s σ H x y v u Q I rx ry ⟨w, a, b, S, e, sm, ra, rb, p⟩
  unfold fIsN at p
  split at p
  · cases rb
    split at p
    · cases ra
      exact op_isN pins s σ _ _ _ v u Q I rx ry ⟨rfl, by rw [decide_eq_true rfl]; exact p.pure rfl e sm (.bl _)⟩
    · rename_i h
      exact op_isN pins s σ _ _ _ v u Q I rx ry ⟨rfl, by rw [decide_eq_false (ra.not_non h)]; exact p.pure rfl e sm (.bl _)⟩
  · exact p.elim
theorem opIsNN : OpR X (compareOp .IsNot) (rB C fIsNN) := by
  intro pins s σ H x y v u Q I rx ry ⟨w, a, b, S, e, sm, ra, rb, p⟩
  unfold fIsNN at p
  split at p
  · cases rb
    split at p
    · cases ra
      exact op_notN pins s σ _ _ _ v u Q I rx ry ⟨rfl, by rw [decide_eq_true rfl]; exact p.pure rfl e sm (.bl _)⟩
    · rename_i h
      exact op_notN pins s σ _ _ _ v u Q I rx ry ⟨rfl, by rw [decide_eq_false (ra.not_non h)]; exact p.pure rfl e sm (.bl _)⟩
  · exact p.elim
/-! ### in -/
def keyU : U → Option Key
  | .int i => some (.inl i)
  | .str s => some (.inr (toS s))
  | _ => none
def keysU : List U → Option (List Key)
  | [] => some []
  | x :: xs => match keyU x, keysU xs with
    | some k, some ks => some (k :: ks)
    | _, _ => none
theorem keyU_ok {u : U} {v : V} {k : Key} (r : RV C w u v) (h : keyU u = some k) : v = kV k := by
  cases r <;> simp only [keyU, Option.some.injEq, reduceCtorEq] at h <;> subst h <;> rfl
theorem keysU_ok : ∀ {us : List U} {vs : List V} {ks : List Key}, RVs C w us vs → keysU us = some ks → vs = ks.map kV
  | _, _, _, .nil, h => by simp only [keysU] at h; cases h; rfl
  | _, _, _, .cons (u := u) (us := us) r t, h => by
    simp only [keysU] at h
    cases q : keyU u with
    | none => rw [q] at h; cases h
    | some d =>
      cases q' : keysU us with
      | none => rw [q, q'] at h; cases h
      | some ds => rw [q, q'] at h; cases h; rw [keyU_ok r q, keysU_ok t q']; rfl
/-- the value at a key -/
def getK {κ α : Type} [DecidableEq κ] : List (κ × α) → κ → Option α
  | [], _ => none
  | (k, v) :: r, x => if k = x then some v else getK r x
theorem getK_ok {κ : Type} [DecidableEq κ] (k : κ) : ∀ {us : List (κ × U)} {vs : List (κ × V)}, RKs C w id us vs → (∀ u, getK us k = some u → ∃ v, valV vs k = some v ∧ RV C w u v) ∧ (getK us k = none → valV vs k = none)
  | _, _, .nil => ⟨fun u h => by simp [getK] at h, fun _ => rfl⟩
  | _, _, .cons (k := j) (u := u0) (v := v0) (us := us) (vs := vs) r t => by
    have ih := getK_ok k t
    by_cases h : j = k
    · subst h
      refine ⟨fun u e => ?_, fun e => ?_⟩
      · simp only [getK, if_pos] at e
        cases e
        exact ⟨v0, by simp [valV], r⟩
      · simp [getK] at e
    · have e1 : getK ((j, u0) :: us) k = getK us k := by simp [getK, h]
      have e2 : valV ((id j, v0) :: vs) k = valV vs k := by simp [valV, h]
      rw [e1, e2]
      exact ih
/-- what a dict holds at a key -/
def dicGet (c : Cell) (u : U) : Option (Option U) := match c with
  | .dic kvs => match keyU u with
    | some k => some (getK kvs k)
    | none => none
  | .rdic kvs => match keyU u with
    | some k => some (getK kvs k)
    | none => none
  | .dit kvs => match u with
    | .tup xs => match keysU xs with
      | some ks => some (getK kvs ks)
      | none => none
    | _ => none
  | _ => none
theorem dicGet_ok {i : Nat} {c : Cell} {u : U} {x : V} {o : Option U} (s : Sim C w S) (hc : S[i]? = some c) (r : RV C w u x) (h : dicGet c u = some o) :
    ∃ o', DGet w.H (w.rho i) x o' ∧ (∀ z, o = some z → ∃ v, o' = some v ∧ RV C w z v) ∧ (o = none → o' = none) := by
  have q := s.cell i c hc
  unfold dicGet at h
  split at h
  · rename_i kvs
    obtain ⟨vs, e, rs⟩ := q
    split at h
    · rename_i k hk
      cases h
      have g := getK_ok k rs
      have e2 := keyU_ok r hk
      subst e2
      exact ⟨_, DGet.k e, fun z hz => g.1 z hz, fun hz => g.2 hz⟩
    · cases h
  · rename_i kvs
    obtain ⟨ob, vs, e, rs⟩ := q
    split at h
    · rename_i k hk
      cases h
      have g := getK_ok k rs
      have e2 := keyU_ok r hk
      subst e2
      exact ⟨_, .inl ⟨vs, k, .inr ⟨ob, e⟩, rfl, rfl⟩, fun z hz => g.1 z hz, fun hz => g.2 hz⟩
    · cases h
  · rename_i kvs
    obtain ⟨vs, e, rs⟩ := q
    split at h
    · rename_i xs
      split at h
      · rename_i k hk
        cases h
        have g := getK_ok k rs
        cases r with
        | tup e3 r3 =>
          have e2 := keysU_ok r3 hk
          subst e2
          exact ⟨_, DGet.t e e3, fun z hz => g.1 z hz, fun hz => g.2 hz⟩
      · cases h
    · cases h
  · cases h
mutual
/-- == of data without lists -/
def eqU : U → U → Bool
  | .non, .non => true
  | .bl a, .bl b => a == b
  | .bl a, .int b => (if a then 1 else 0) == b
  | .int a, .bl b => a == (if b then 1 else 0)
  | .int a, .int b => a == b
  | .str a, .str b => a == b
  | .tup a, .tup b => eqUs a b
  | _, _ => false
def eqUs : List U → List U → Bool
  | [], [] => true
  | x :: xs, y :: ys => eqU x y && eqUs xs ys
  | _, _ => false
end
def flatU : U → Bool
  | .non => true
  | .bl _ => true
  | .int _ => true
  | .str _ => true
  | _ => false
theorem flatU_ok {u : U} {v : V} (r : RV C w u v) (h : flatU u = true) : flatV v = true := by
  cases r <;> first | rfl | (simp [flatU] at h)
theorem flatUs_ok : ∀ {us : List U} {vs : List V}, RVs C w us vs → us.all flatU = true → vs.all flatV = true
  | _, _, .nil, _ => rfl
  | _, _, .cons r t, h => by
    rw [List.all_cons, Bool.and_eq_true] at h ⊢
    exact ⟨flatU_ok r h.1, flatUs_ok t h.2⟩
theorem toS_beq (a b : List Nat) : (toS a == toS b) = (a == b) := by
  by_cases e : toS a = toS b
  · rw [beq_iff_eq.mpr e, beq_iff_eq.mpr (toS_inj e)]
  · rw [beq_eq_false_iff_ne.mpr e, beq_eq_false_iff_ne.mpr (fun z => e (by rw [z]))]
theorem eqV_of {u z : U} {v y : V} (r : RV C w u v) (q : RV C w z y) (h : flatU u = true) (h' : flatU z = true) : eqV v y = eqU u z := by
  cases r <;> cases q <;> simp [eqV, eqU, flatU] at h h' ⊢
  exact toS_beq _ _
theorem inV_of {z : U} {y : V} (q : RV C w z y) (h' : flatU z = true) : ∀ {us : List U} {vs : List V}, RVs C w us vs → us.all flatU = true → inV y vs = us.any fun u => eqU u z
  | _, _, .nil, _ => rfl
  | _, _, .cons r t, h => by
    rw [List.all_cons, Bool.and_eq_true] at h
    have ih := inV_of q h' t h.2
    unfold inV at ih ⊢
    rw [List.any_cons, List.any_cons, ih, eqV_of r q h.1 h']
mutual
theorem eqv_of : ∀ {u z : U} {d e : PyData}, toD u = some d → toD z = some e → PyData.eqv d e = eqU u z
  | .non, z, d, e, h, h' => by
    simp only [toD] at h; cases h
    cases z <;> simp only [toD] at h' <;> first | (cases h'; done) | (cases h'; simp [PyData.eqv, eqU]; done) | skip
    rename_i xs; cases q : toDs xs <;> rw [q] at h' <;> cases h'; simp [PyData.eqv, eqU]
  | .bl b, z, d, e, h, h' => by
    simp only [toD] at h; cases h
    cases z <;> simp only [toD] at h' <;> first | (cases h'; done) | (cases h'; simp [PyData.eqv, eqU]; done) | skip
    rename_i xs; cases q : toDs xs <;> rw [q] at h' <;> cases h'; simp [PyData.eqv, eqU]
  | .int b, z, d, e, h, h' => by
    simp only [toD] at h; cases h
    cases z <;> simp only [toD] at h' <;> first | (cases h'; done) | (cases h'; simp [PyData.eqv, eqU]; done) | skip
    rename_i xs; cases q : toDs xs <;> rw [q] at h' <;> cases h'; simp [PyData.eqv, eqU]
  | .str b, z, d, e, h, h' => by
    simp only [toD] at h; cases h
    cases z <;> simp only [toD] at h' <;> first | (cases h'; done) | (cases h'; simp [PyData.eqv, eqU]; done) | skip
    · cases h'
      rename_i x
      simp only [PyData.eqv, eqU]
      by_cases e : (toS b = toS x)
      · rw [beq_iff_eq.mpr e, beq_iff_eq.mpr (toS_inj e)]
      · rw [beq_eq_false_iff_ne.mpr e, beq_eq_false_iff_ne.mpr (fun z => e (by rw [z]))]
    · rename_i xs; cases q : toDs xs <;> rw [q] at h' <;> cases h'; simp [PyData.eqv, eqU]
  | .tup us, z, d, e, h, h' => by
    simp only [toD] at h
    cases q0 : toDs us with
    | none => rw [q0] at h; cases h
    | some ds =>
      rw [q0] at h; cases h
      cases z <;> simp only [toD] at h' <;> first | (cases h'; done) | (cases h'; simp [PyData.eqv, eqU]; done) | skip
      rename_i xs
      cases q : toDs xs with
      | none => rw [q] at h'; cases h'
      | some es => rw [q] at h'; cases h'; simp only [PyData.eqv, eqU]; exact eqvs_of q0 q
  | .ref _, _, _, _, h, _ => by simp only [toD] at h; cases h
  | .fn _, _, _, _, h, _ => by simp only [toD] at h; cases h
  | .lam _ _, _, _, _, h, _ => by simp only [toD] at h; cases h
  | .scr _, _, _, _, h, _ => by simp only [toD] at h; cases h
theorem eqvs_of : ∀ {us zs : List U} {ds es : List PyData}, toDs us = some ds → toDs zs = some es → PyData.eqvAll ds es = eqUs us zs
  | [], [], _, _, h, h' => by simp only [toDs] at h h'; cases h; cases h'; rfl
  | [], z :: zs, _, _, h, h' => by
    simp only [toDs] at h h'; cases h
    split at h'
    · cases h'; simp [PyData.eqvAll, eqUs]
    · cases h'
  | u :: us, [], _, _, h, h' => by
    simp only [toDs] at h h'; cases h'
    split at h
    · cases h; simp [PyData.eqvAll, eqUs]
    · cases h
  | u :: us, z :: zs, _, _, h, h' => by
    simp only [toDs] at h h'
    split at h
    · rename_i d ds q1 q2
      cases h
      split at h'
      · rename_i e es q3 q4
        cases h'
        simp only [PyData.eqvAll, eqUs]
        rw [eqv_of q1 q3, eqvs_of q2 q4]
      · cases h'
    · cases h
end
theorem any_eqv {z : U} {e : PyData} (hz : toD z = some e) : ∀ {us : List U} {ds : List PyData}, toDs us = some ds → (ds.any fun d => PyData.eqv d e) = us.any fun u => eqU u z
  | [], _, h => by simp only [toDs] at h; cases h; rfl
  | u :: us, _, h => by
    simp only [toDs] at h
    split at h
    · rename_i d ds q1 q2
      cases h
      rw [List.any_cons, List.any_cons, any_eqv hz q2, eqv_of q1 hz]
    · cases h
def fIn (u v : U) (S : Sto) : Option (U × Sto) := match v with
  | .str b => match u with
    | .str [c] => some (.bl (decide (c ∈ b)), S)
    | _ => none
  | .tup xs => if flatU u && xs.all flatU then some (.bl (xs.any fun x => eqU x u), S) else none
  | .ref i => match S[i]? with
    | some (.lst xs) => if flatU u && xs.all flatU then some (.bl (xs.any fun x => eqU x u), S) else match toD u, toDs xs with
      | some d, some ds => if SeqAt.shaped d && SeqAt.shaped (.list ds) then some (.bl (xs.any fun x => eqU x u), S) else none
      | _, _ => none
    | some c => match dicGet c u with
      | some o => some (.bl o.isSome, S)
      | none => none
    | none => none
  | _ => none
def fNotIn (u v : U) (S : Sto) : Option (U × Sto) := negO (fIn u v S)
theorem negO_some {o : Option (U × Sto)} {b : Bool} (h : o = some (.bl b, S)) : negO o = some (.bl (!b), S) := by subst h; rfl
theorem fIn_ok {neg : Bool} {op : CmpOp} (hop : op = if neg then .NotIn else .In) (hu : X.A.units + 65 < cLine) : OpR X (compareOp op) (rB C fun u v S => if neg then fNotIn u v S else fIn u v S) := by
  intro pins s σ H x y v u Q I rx ry ⟨w, a, b, S, e, sm, ra, rb, p⟩
  subst e
  have fin : ∀ k, fIn a b S = some (.bl k, S) → Q (.bl (if neg then !k else k)) w.H := fun k h => by
    cases neg with
    | true => exact p.pure (by show fNotIn a b S = _; exact negO_some h) rfl sm (.bl _)
    | false => exact p.pure (by show fIn a b S = _; exact h) rfl sm (.bl _)
  have none_of : fIn a b S = none → False := fun h => by
    cases neg with
    | true => simp only [if_true, fNotIn, h, negO] at p; exact p
    | false => simp only [Bool.false_eq_true, if_false, h] at p; exact p
  cases hf : fIn a b S with
  | none => exact (none_of hf).elim
  | some z =>
    have hf0 := hf
    unfold fIn at hf
    split at hf
    · rename_i t
      split at hf
      · rename_i c
        cases hf
        cases ra; cases rb
        have q := fin _ hf0
        cases neg with
        | true =>
          subst hop
          exact op_notIn_sign pins s σ _ _ _ v u Q I rx ry ⟨c, toS t, rfl, rfl, by rw [toS_list]; exact q⟩
        | false =>
          subst hop
          exact op_in_sign pins s σ _ _ _ v u Q I rx ry ⟨c, toS t, rfl, rfl, by rw [toS_list]; exact q⟩
      · cases hf
    · rename_i xs
      split at hf
      · rename_i hz
        cases hf
        rw [Bool.and_eq_true] at hz
        cases rb with
        | tup e1 r1 =>
          have q := fin _ hf0
          rw [← inV_of ra hz.1 r1 hz.2] at q
          cases neg with
          | true => subst hop; exact op_notIn_seq pins s σ _ _ _ v u Q I rx ry ⟨_, _, rfl, .inr (SqT.of e1), flatU_ok ra hz.1, flatUs_ok r1 hz.2, q⟩
          | false => subst hop; exact op_in_seq pins s σ _ _ _ v u Q I rx ry ⟨_, _, rfl, .inr (SqT.of e1), flatU_ok ra hz.1, flatUs_ok r1 hz.2, q⟩
      · cases hf
    · rename_i i
      split at hf
      · rename_i xs hi
        obtain ⟨vs, e1, r1⟩ := sm.cell _ _ hi
        cases rb
        split at hf
        · rename_i hz
          cases hf
          rw [Bool.and_eq_true] at hz
          have q := fin _ hf0
          rw [← inV_of ra hz.1 r1 hz.2] at q
          cases neg with
          | true => subst hop; exact op_notIn_seq pins s σ _ _ _ v u Q I rx ry ⟨_, _, rfl, .inl (SqL.of e1), flatU_ok ra hz.1, flatUs_ok r1 hz.2, q⟩
          | false => subst hop; exact op_in_seq pins s σ _ _ _ v u Q I rx ry ⟨_, _, rfl, .inl (SqL.of e1), flatU_ok ra hz.1, flatUs_ok r1 hz.2, q⟩
        · split at hf
          · rename_i d ds q1 q2
            split at hf
            · rename_i hz
              cases hf
              rw [Bool.and_eq_true] at hz
              have q := fin _ hf0
              rw [← any_eqv q1 q2] at q
              cases neg with
              | true => subst hop; exact op_notInD hu pins s σ _ _ _ v u Q I rx ry ⟨d, ds, toD_ok ra q1, .lst (SqL.of e1) (toDs_ok r1 q2), hz.1, hz.2, q⟩
              | false => subst hop; exact op_inD hu pins s σ _ _ _ v u Q I rx ry ⟨d, ds, toD_ok ra q1, .lst (SqL.of e1) (toDs_ok r1 q2), hz.1, hz.2, q⟩
            · cases hf
          · cases hf
      · rename_i c hne hi
        split at hf
        · rename_i o ho
          cases hf
          cases rb
          obtain ⟨o', g, h1, h2⟩ := dicGet_ok sm hi ra ho
          have q := fin _ hf0
          have eo : o'.isSome = o.isSome := by
            cases o with
            | none => rw [h2 rfl]; rfl
            | some z => obtain ⟨v, e, _⟩ := h1 z rfl; rw [e]; rfl
          rw [← eo] at q
          cases neg with
          | true => subst hop; cases ry; exact d_notIn (by omega) I g rx fun s' I' => ⟨.bl _, _, I', rfl, q⟩
          | false => subst hop; cases ry; exact d_in (by omega) I g rx fun s' I' => ⟨.bl _, _, I', rfl, q⟩
        · cases hf
      · cases hf
    · cases hf
theorem opIn (hu : X.A.units + 65 < cLine) : OpR X (compareOp .In) (rB C fIn) := fIn_ok (neg := false) rfl hu
theorem opNotIn (hu : X.A.units + 65 < cLine) : OpR X (compareOp .NotIn) (rB C fNotIn) := fIn_ok (neg := true) rfl hu
end
end OD
end

section
set_option Elab.async false
set_option linter.all false
set_option autoImplicit false
set_option maxRecDepth 100000
set_option maxHeartbeats 4000000
/-! OD4: calls, attributes, subscripts -/
namespace OD
open PySem L2

/-! ### a def of the text -/
def PsC (C : Ct) (w : Wd) (r : Rs U) (Q : VK) (E : XK) : Prop := match r with
  | .ok u S => ∀ w' v, Le w w' → Sim C w' S → RV C w' u v → Q v w'.H
  | .ex c f S => ∀ w' d, Le w w' → Sim C w' S → ExR C w' f d → E (.ref (C.adr c)) d w'.H
  | .bad => False
def spI (C : Ct) (n : Nat) (D : FM) : Sp := fun vs H Q E => ∃ w us S, w.H = H ∧ Sim C w S ∧ RVs C w us vs ∧ us.length = n ∧ PsC C w (D us S) Q E
structure Fi (P : Program) (W0 : World) (mg : Str → Option Value) (base : Heap) (C : Ct) (k i n : Nat) (D : FM) : Prop where
  ex : ∃ fd ps, FnOk P W0 C.K mg base (L2.CX P W0) k (C.adr i) fd ps (spI C n D) ∧ Binds C.K fd ps []
  kp : PySem.W.keepIn C.K (.ref (C.adr i)) = true
theorem Fi.mono {P : Program} {W0 : World} {mg : Str → Option Value} {base : Heap} {C : Ct} {k k' i n : Nat} {D : FM} (F : Fi P W0 mg base C k i n D) (h : k ≤ k') : Fi P W0 mg base C k' i n D :=
  ⟨let ⟨fd, ps, f, b⟩ := F.ex; ⟨fd, ps, f.mono h, b⟩, F.kp⟩
theorem PsC_of {C : Ct} {W : WX} {w : Wd} {σ : St} {r : Rs U} {Q : VK} (p : Ps C W σ w r (RV C) Q) : PsC C w r Q (fun cls d H => W cls d σ H) := by
  cases r with
  | ok u S => exact p
  | ex c f S => exact p
  | bad => exact p
/-- a mirror in the def's place -/
def Leq (D D' : FM) : Prop := ∀ us S, D' us S ≠ .bad → D us S = D' us S
theorem Fi.mirror {P : Program} {W0 : World} {mg : Str → Option Value} {base : Heap} {C : Ct} {k i n : Nat} {D D' : FM} (F : Fi P W0 mg base C k i n D) (h : ∀ us S, us.length = n → D' us S ≠ .bad → D us S = D' us S) : Fi P W0 mg base C k i n D' :=
  ⟨let ⟨fd, ps, f, b⟩ := F.ex
   ⟨fd, ps, f.imp fun vs H Q E ⟨w, us, S, e, s, r, l, p⟩ => ⟨w, us, S, e, s, r, l, by
      have hne : D' us S ≠ .bad := fun q => by rw [q] at p; exact p
      rw [h us S l hne]; exact p⟩, b⟩, F.kp⟩

def mCall (n : Nat) (D : FM) (ms : EM (List U)) : EM U := fun e S => (ms e S).bind fun us S1 => if us.length = n then D us S1 else .bad
section
variable {X : Cx} {C : Ct} {W : WX} {pos : Pos} {k i n : Nat} {D : FM}
theorem eCall {e : Expr} {es : List Expr} {ms : EM (List U)} {x : Str} {p : Pos} (F : Fi X.prog X.w X.mg X.base C k i n D) (tk : Takes X W) (hr : Room k X.A) (hm : X.mg x = some (.ref (C.adr i))) (ha : PA X (e :: es) (tA C W ms))
    (hg : Gl X x := by rfl) (hK : X.K = C.K := by rfl) (hdb : (x == ("__debug__" : Str)) = false := by decide) (he : starEach (e :: es) X.env = (false, eval e X.env) :: starEach es X.env := by rfl) (hpl : (backTo pos (starEach es X.env)).any (·.1) = false := by rfl) :
    PE X (.Call (.Name x p) (e :: es) [] pos) (tE C W (mCall n D ms)) := by
  obtain ⟨fd, ps, f, b⟩ := F.ex
  refine PE_imp (pe_callSD (dvs := []) (ds := []) (E := fun σ cls d H => W cls d σ H) (by rw [hK]; exact f) hr hg hm (by rw [hK]; exact F.kp) (by rw [hK]; exact b) .nil (fun σ => passAt tk σ) ha hdb he hpl) fun σ H Q ⟨w, env, S, a, p⟩ => ?_
  refine tA_mono (fun vs H1 ⟨w1, us, S1, at1, l1, r1, p1⟩ => ?_) (tA_of a p)
  split at p1
  · rename_i hn
    exact ⟨w1, us, S1, at1.h, at1.s, by rw [List.append_nil]; exact r1, hn, PsC_of p1⟩
  · exact p1.elim
theorem eCall0 {x : Str} {p : Pos} (F : Fi X.prog X.w X.mg X.base C k i 0 D) (tk : Takes X W) (hr : Room k X.A) (hm : X.mg x = some (.ref (C.adr i)))
    (hg : Gl X x := by rfl) (hK : X.K = C.K := by rfl) (hdb : (x == ("__debug__" : Str)) = false := by decide) :
    PE X (.Call (.Name x p) [] [] pos) (tE C W (mCall 0 D mNil)) := by
  obtain ⟨fd, ps, f, b⟩ := F.ex
  have hk : PySem.W.keepIn X.K (.ref (C.adr i)) = true := by rw [hK]; exact F.kp
  refine ⟨fun pins s σ H Q I ⟨w, env, S, a, p⟩ => ?_⟩
  have p' : Ps C W σ w (D [] S) (RV C) Q := p
  have f' : FnOk X.prog X.w X.K X.mg X.base (L2.CX X.prog X.w) k (C.adr i) fd ps (spI C 0 D) := by rw [hK]; exact f
  have b' : Binds X.K fd ps [] := by rw [hK]; exact b
  have go := run_fnSD (us := []) (vs := []) (dvs := []) (Q := Q) (E := fun σ cls d H => W cls d σ H) f' hr b' .nil (passAt tk σ) I .nil ⟨w, [], S, a.h, a.s, .nil, rfl, PsC_of p'⟩
  exact wpAny_Call_Name_kw (ld_glob I hg hm (PySem.W.callWith_K0 I.kIn hk go) hdb)
end
end OD
end

section
set_option Elab.async false
set_option linter.all false
set_option autoImplicit false
set_option maxRecDepth 100000
set_option maxHeartbeats 4000000
/-! OD5: objects, methods, subscripts, built-ins -/
namespace OD
open PySem L2 PyProof.Rows

section
variable {X : Cx} {C : Ct} {W : WX} {pos : Pos} {k i n c : Nat} {D : FM} {a b : Expr} {ma mb : EM U}
theorem run_fi {pins : List (Addr × Obj)} {σ : L2.St} {H : Hp} {s : Shared} {Q : VK} {us : List Value} {vs : List V} {zs : List U} {w : Wd} {S : Sto} (F : Fi X.prog X.w X.mg X.base C k i n D) (tk : Takes X W) (hr : Room k X.A) (hK : X.K = C.K)
    (I : Inv X pins σ H s) (r : Vals vs us) (hH : w.H = H) (sm : Sim C w S) (rz : RVs C w zs vs) (hn : zs.length = n) (p : Ps C W σ w (D zs S) (RV C) Q) : wpAny (model X.prog X.w) X.A (call (.ref (C.adr i)) us) (EP X pins σ Q) X.xe s := by
  obtain ⟨fd, ps, f, b⟩ := F.ex
  have f' : FnOk X.prog X.w X.K X.mg X.base (L2.CX X.prog X.w) k (C.adr i) fd ps (spI C n D) := by rw [hK]; exact f
  have b' : Binds X.K fd ps [] := by rw [hK]; exact b
  exact run_fnSD (dvs := []) (E := fun σ cls d H => W cls d σ H) f' hr b' .nil (passAt tk σ) I r ⟨w, zs, S, hH, sm, by rw [List.append_nil]; exact rz, hn, PsC_of p⟩
/-! ### methods of own classes -/
/-- the method m of the class c is the def i -/
structure MethI (C : Ct) (c : Nat) (m : Str) (i : Nat) : Prop where
  cl : Cls C.K (C.adr c)
  me : Meth C.K (C.adr c) m (C.adr i)
def noFld (C : Ct) (m : Str) (fs : List (Nat × U)) : Prop := ∀ p ∈ fs, C.fld p.1 ≠ m
def isIns (c : Nat) (u : U) (S : Sto) : Bool := match u with
  | .ref j => match S[j]? with
    | some (.ins c' _) => c' == c
    | _ => false
  | _ => false
def mMeth (c n : Nat) (D : FM) (o : EM U) (ms : EM (List U)) : EM U := fun e S => (o e S).bind fun u S1 => if isIns c u S1 then (ms e S1).bind fun us S2 => if us.length + 1 = n then D (u :: us) S2 else .bad else .bad
theorem isIns_ok {w : Wd} {S : Sto} {u : U} {v : V} (sm : Sim C w S) (r : RV C w u v) (h : isIns c u S = true) : ∃ j dx fs vs, u = .ref j ∧ v = .ref (w.rho j) ∧ S[j]? = some (.ins c fs) ∧ w.H (w.rho j) = some (.ins (C.adr c) dx vs) ∧ RKs C w C.fld fs vs := by
  unfold isIns at h
  split at h
  · rename_i j
    split at h
    · rename_i c' fs e
      have hc := beq_iff_eq.mp h
      subst hc
      obtain ⟨dx, vs, e', rs⟩ := sm.cell _ _ e
      cases r
      exact ⟨j, dx, fs, vs, rfl, rfl, e, e', rs⟩
    · cases h
  · cases h
theorem RKs.noLook {w : Wd} {m : Str} : ∀ {fs : List (Nat × U)} {vs : List (Str × V)}, RKs C w C.fld fs vs → (∀ j : Nat, C.fld j ≠ m) → vs.lookup m = none
  | _, _, .nil, _ => rfl
  | _, _, .cons (k := k0) _ t, h => by
    rw [List.lookup_cons]
    have e : (m == C.fld k0) = false := beq_eq_false_iff_ne.mpr (Ne.symm (h k0))
    rw [e]
    exact RKs.noLook t h
theorem eMeth {o e : Expr} {es : List Expr} {m : Str} {apos : Pos} {pl : Sem Bool} {ms : EM (List U)} (ho : PE X o (tE C W ma)) (M : MethI C c m i) (F : Fi X.prog X.w X.mg X.base C k i n D) (tk : Takes X W) (hr : Room k X.A) (hf : ∀ j, C.fld j ≠ m) (ha : PA X (e :: es) (tA C W ms))
    (hK : X.K = C.K := by rfl) (hst : starEach (e :: es) X.env = (false, eval e X.env) :: starEach es X.env := by rfl) (hpl : (backTo pos (starEach es X.env)).any (·.1) = false := by rfl)
    (ht : eval (.Call (.Attribute o m apos) (e :: es) [] pos) X.env = (do let ov ← eval o X.env; standAt apos.atName; let (f, first) ← holding [ov] (getMethod ov m pl); callWith pos f first (backTo pos (starEach (e :: es) X.env)) (backToKw pos (keywordEach [] X.env))) := by rfl) :
    PE X (.Call (.Attribute o m apos) (e :: es) [] pos) (tE C W (mMeth c n D ma ms)) := by
  refine ⟨fun pins s σ H Q I ⟨w, env, S, at_, p⟩ => PySem.W.methodCall_KW (pl := pl) (thn (ho.run pins s σ H _ I (tE_of at_ p)) fun u s1 ⟨x, H1, I1, rx, w1, u1, S1, at1, l1, r1, p1⟩ => ?_) ht⟩
  split at p1
  · rename_i hi
    obtain ⟨j, dx, fs, vs, rfl, rfl, e1, e2, r2⟩ := isIns_ok at1.s r1 hi
    obtain rfl : u = Value.ref (w1.rho j) := rx
    have eH : H1 (w1.rho j) = some (.ins (C.adr c) dx vs) := by rw [← at1.h]; exact e2
    have me : Meth X.K (C.adr c) m (C.adr i) := by rw [hK]; exact M.me
    have cl : Cls X.K (C.adr c) := by rw [hK]; exact M.cl
    refine getmeth_ok I1 eH cl me (r2.noLook hf) (PySem.W.callWith_K (first := [.ref (w1.rho j)]) (h₀ := X.base) I.ok.mod.kin me.kp (thn (ha.run pos pins s1 σ H1 _ I1 (tA_of at1 p1)) fun us s2 ⟨zs, H2, I2, rz, w2, us2, S2, at2, l2, r3, p2⟩ => ⟨I2.kIn, ?_⟩) hst hpl)
    split at p2
    · rename_i hn
      exact run_fi (us := .ref (w1.rho j) :: us) (vs := .ref (w1.rho j) :: zs) F tk hr hK I2 (.cons rfl rz) at2.h at2.s (.cons (r1.le l2) r3) hn p2
    · exact p2.elim
  · exact p1.elim
theorem eMeth0 {o : Expr} {m : Str} {apos : Pos} {pl : Sem Bool} (ho : PE X o (tE C W ma)) (M : MethI C c m i) (F : Fi X.prog X.w X.mg X.base C k i n D) (tk : Takes X W) (hr : Room k X.A) (hf : ∀ j, C.fld j ≠ m)
    (hK : X.K = C.K := by rfl)
    (ht : eval (.Call (.Attribute o m apos) [] [] pos) X.env = (do let ov ← eval o X.env; standAt apos.atName; let (f, first) ← holding [ov] (getMethod ov m pl); callWith pos f first (backTo pos (starEach [] X.env)) (backToKw pos (keywordEach [] X.env))) := by rfl) :
    PE X (.Call (.Attribute o m apos) [] [] pos) (tE C W (mMeth c n D ma mNil)) := by
  refine ⟨fun pins s σ H Q I ⟨w, env, S, at_, p⟩ => PySem.W.methodCall_KW (pl := pl) (thn (ho.run pins s σ H _ I (tE_of at_ p)) fun u s1 ⟨x, H1, I1, rx, w1, u1, S1, at1, l1, r1, p1⟩ => ?_) ht⟩
  split at p1
  · rename_i hi
    obtain ⟨j, dx, fs, vs, rfl, rfl, e1, e2, r2⟩ := isIns_ok at1.s r1 hi
    obtain rfl : u = Value.ref (w1.rho j) := rx
    have eH : H1 (w1.rho j) = some (.ins (C.adr c) dx vs) := by rw [← at1.h]; exact e2
    have me : Meth X.K (C.adr c) m (C.adr i) := by rw [hK]; exact M.me
    have cl : Cls X.K (C.adr c) := by rw [hK]; exact M.cl
    have p2 : Ps C W σ w1 (if 0 + 1 = n then D [.ref j] S1 else .bad) (RV C) Q := p1
    split at p2
    · rename_i hn
      exact getmeth_ok I1 eH cl me (r2.noLook hf) (PySem.W.callWith_K0 (first := [.ref (w1.rho j)]) I1.kIn me.kp
        (run_fi (us := [.ref (w1.rho j)]) (vs := [.ref (w1.rho j)]) F tk hr hK I1 (.cons rfl .nil) at1.h at1.s (.cons r1 .nil) hn p2))
    · exact p2.elim
  · exact p1.elim
/-! ### a new instance -/
structure MkI (C : Ct) (c i : Nat) : Prop where
  is : Mk C.K (C.adr c) (C.adr i)
def mMake (c n : Nat) (D : FM) (ms : EM (List U)) : EM U := fun e S => (ms e S).bind fun us S1 => if us.length + 1 = n then (D (.ref S1.length :: us) (S1 ++ [.ins c []])).bind fun u S2 => match u with
  | .non => .ok (.ref S1.length) S2
  | _ => .bad else .bad
theorem run_mkI {pins : List (Addr × Obj)} {σ : L2.St} {H : Hp} {s : Shared} {Q : VK} {us : List Value} {vs : List V} {zs : List U} {w : Wd} {S : Sto} (M : MkI C c i) (F : Fi X.prog X.w X.mg X.base C k i n D) (tk : Takes X W) (hr : Room (k + 1) X.A) (hK : X.K = C.K)
    (I : Inv X pins σ H s) (r : Vals vs us) (hH : w.H = H) (sm : Sim C w S) (rz : RVs C w zs vs) (hn : zs.length + 1 = n)
    (p : Ps C W σ w ((D (.ref S.length :: zs) (S ++ [.ins c []])).bind fun u S2 => match u with | .non => .ok (.ref S.length) S2 | _ => .bad) (RV C) Q) :
    wpAny (model X.prog X.w) X.A (call (.ref (C.adr c)) us) (EP X pins σ Q) X.xe s := by
  obtain ⟨fd, ps, f, b⟩ := F.ex
  have f' : FnOk X.prog X.w X.K X.mg X.base (L2.CX X.prog X.w) k (C.adr i) fd ps (spI C n D) := by rw [hK]; exact f
  have b' : Binds X.K fd ps [] := by rw [hK]; exact b
  have M' : Mk X.K (C.adr c) (C.adr i) := by rw [hK]; exact M.is
  subst hH
  have fx : w.H (s.heap.objs.size + 1) = none := I.hok.fresh (Nat.le_succ _)
  have fd0 : w.H s.heap.objs.size = none := I.hok.fresh (Nat.le_refl _)
  have hne : s.heap.objs.size + 1 ≠ s.heap.objs.size := Nat.succ_ne_self _
  obtain ⟨s1, l1⟩ := sm.upd (o := .own (s.heap.objs.size + 1)) fd0
  have fx1 : upd w.H s.heap.objs.size (.own (s.heap.objs.size + 1)) (s.heap.objs.size + 1) = none := by rw [upd_ne hne]; exact fx
  obtain ⟨s2, l2⟩ := s1.new (o := .ins (C.adr c) s.heap.objs.size []) (c := .ins c []) fx1 fun w' l e => ⟨s.heap.objs.size, [], by rw [e]; exact upd_same, .nil⟩
  have rself := new_ref (o := .ins (C.adr c) s.heap.objs.size []) (q := s.heap.objs.size + 1) s1
  have hq : spI C n D (.ref (s.heap.objs.size + 1) :: vs) _ (fun v H2 => v = .non ∧ Q (.ref (s.heap.objs.size + 1)) H2) (fun cls d H => W cls d σ H) :=
    ⟨_, .ref S.length :: zs, _, rfl, s2, .cons rself ((rz.le l1).le l2), hn, PsC_of (Ps_mono (fun v H1 ⟨w3, u, S3, e3, l3, s3, r3, p3⟩ => by
      cases r3 with
      | non =>
        refine ⟨rfl, ?_⟩
        rw [← e3]
        exact p3.ok (Le.refl _) s3 (rself.le l3)
      | _ => exact p3.elim) (Ps_bind (R := RV C) (p.le (l1.trans l2))))⟩
  have I2 := Inv.made (C := C.adr c) I
  have r2 : Vals (V.ref (s.heap.objs.size + 1) :: vs) (Value.ref (s.heap.objs.size + 1) :: us) := .cons rfl r
  have hl : ((Value.ref (s.heap.objs.size + 1) :: us) ++ []).length = ps.length := by
    rw [List.append_nil, ← r2.length]; exact f'.len _ _ _ _ hq
  have bb := b' { s with heap := (s.heap.push PySem.W.emptyDict).push (PySem.W.instObj (C.adr c) s.heap.objs.size) } (Value.ref (s.heap.objs.size + 1) :: us) I2.kIn hl
  rw [List.append_nil] at bb
  refine wpAny_call (make_map (f := C.adr i) I.kIn M'.makes M'.init (beq_iff_eq.mp M'.fn) (codeAny_mono (f'.run _ X.stack _ _ _ _ _ _ _ (hr.make (C.adr c) us []) (I2.env0.make (C.adr c) us []) bb r2 hq) fun r s' hq' => ?_))
  cases r with
  | error e => exact passAt tk σ pins _ _ e s' I2 hq'
  | ok fl =>
    cases fl with
    | ret u =>
      obtain ⟨v, H', I3, rv, ev, q3⟩ := I2.after hq'
      subst ev
      exact ⟨rv, .ref (s.heap.objs.size + 1), H', I3, rfl, q3⟩
    | _ => exact False.elim hq'
theorem eMake {e : Expr} {es : List Expr} {ms : EM (List U)} {x : Str} {p : Pos} (M : MkI C c i) (F : Fi X.prog X.w X.mg X.base C k i n D) (tk : Takes X W) (hr : Room (k + 1) X.A) (hm : X.mg x = some (.ref (C.adr c))) (ha : PA X (e :: es) (tA C W ms))
    (hg : Gl X x := by rfl) (hK : X.K = C.K := by rfl) (hdb : (x == ("__debug__" : Str)) = false := by decide) (he : starEach (e :: es) X.env = (false, eval e X.env) :: starEach es X.env := by rfl) (hpl : (backTo pos (starEach es X.env)).any (·.1) = false := by rfl) :
    PE X (.Call (.Name x p) (e :: es) [] pos) (tE C W (mMake c n D ms)) := by
  have kp : PySem.W.keepIn X.K (.ref (C.adr c)) = true := by rw [hK]; exact M.is.kp
  refine ⟨fun pins s σ H Q I ⟨w, env, S, at_, p⟩ => wpAny_Call_Name_kw (ld_glob I hg hm (PySem.W.callWith_K (h₀ := X.base) I.ok.mod.kin kp (thn (ha.run pos pins s σ H _ I (tA_of at_ p)) fun us s1 ⟨vs, H1, I1, r, w1, us1, S1, at1, l1, r1, p1⟩ => ⟨I1.kIn, ?_⟩) he hpl) hdb)⟩
  split at p1
  · rename_i hn
    exact run_mkI M F tk hr hK I1 r at1.h at1.s r1 hn p1
  · exact p1.elim
theorem eMake0 {x : Str} {p : Pos} (M : MkI C c i) (F : Fi X.prog X.w X.mg X.base C k i n D) (tk : Takes X W) (hr : Room (k + 1) X.A) (hm : X.mg x = some (.ref (C.adr c)))
    (hg : Gl X x := by rfl) (hK : X.K = C.K := by rfl) (hdb : (x == ("__debug__" : Str)) = false := by decide) :
    PE X (.Call (.Name x p) [] [] pos) (tE C W (mMake c n D mNil)) := by
  have kp : PySem.W.keepIn X.K (.ref (C.adr c)) = true := by rw [hK]; exact M.is.kp
  refine ⟨fun pins s σ H Q I ⟨w, env, S, at_, p⟩ => ?_⟩
  have p1 : Ps C W σ w (if 0 + 1 = n then (D [.ref S.length] (S ++ [.ins c []])).bind (fun u S2 => match u with | .non => .ok (.ref S.length) S2 | _ => .bad) else .bad) (RV C) Q := p
  split at p1
  · rename_i hn
    exact wpAny_Call_Name_kw (ld_glob I hg hm (PySem.W.callWith_K0 I.kIn kp (run_mkI (us := []) (vs := []) (zs := []) M F tk hr hK I .nil at_.h at_.s .nil hn p1)) hdb)
  · exact p1.elim
/-! ### attributes -/
def getF (fs : List (Nat × U)) (f : Nat) : Option U := getK fs f
def putU (f : Nat) (v : U) : List (Nat × U) → List (Nat × U)
  | [] => [(f, v)]
  | (g, x) :: r => if g = f then (g, v) :: r else (g, x) :: putU f v r
theorem look_fld {w : Wd} {f : Nat} (hi : ∀ j, C.fld j = C.fld f → j = f) : ∀ {fs : List (Nat × U)} {vs : List (Str × V)} {u : U}, RKs C w C.fld fs vs → getF fs f = some u → ∃ v, vs.lookup (C.fld f) = some v ∧ RV C w u v
  | _, _, _, .nil, h => by cases h
  | _, _, _, .cons (k := k0) r t, h => by
    rw [List.lookup_cons]
    unfold getF getK at h
    by_cases e : k0 = f
    · subst e
      rw [if_pos rfl] at h
      cases h
      exact ⟨_, by rw [beq_self_eq_true], r⟩
    · rw [if_neg e] at h
      have e' : (C.fld f == C.fld k0) = false := beq_eq_false_iff_ne.mpr fun q => e (hi k0 q.symm)
      rw [e']
      exact look_fld hi t h
theorem put_fld {w : Wd} {f : Nat} {u : U} {v : V} (hi : ∀ j, C.fld j = C.fld f → j = f) (ru : RV C w u v) : ∀ {fs : List (Nat × U)} {vs : List (Str × V)}, RKs C w C.fld fs vs → RKs C w C.fld (putU f u fs) (putF (C.fld f) v vs)
  | _, _, .nil => .cons ru .nil
  | _, _, .cons (k := k0) r t => by
    unfold putU putF
    by_cases e : k0 = f
    · subst e
      rw [if_pos rfl, if_pos rfl]
      exact .cons ru t
    · rw [if_neg e, if_neg fun q => e (hi k0 q)]
      exact .cons r (put_fld hi ru t)
structure FldI (C : Ct) (c f : Nat) : Prop where
  cl : Cls C.K (C.adr c)
  no : NoAttr C.K (C.adr c) (C.fld f)
  inj : ∀ j, C.fld j = C.fld f → j = f
def insAt (c : Nat) (u : U) (S : Sto) : Option (List (Nat × U)) := match u with
  | .ref j => match S[j]? with
    | some (.ins c' fs) => if c' = c then some fs else none
    | _ => none
  | _ => none
theorem insAt_ok {w : Wd} {S : Sto} {u : U} {v : V} {fs : List (Nat × U)} (sm : Sim C w S) (r : RV C w u v) (h : insAt c u S = some fs) : ∃ j dx vs, u = .ref j ∧ v = .ref (w.rho j) ∧ S[j]? = some (.ins c fs) ∧ w.H (w.rho j) = some (.ins (C.adr c) dx vs) ∧ RKs C w C.fld fs vs := by
  unfold insAt at h
  split at h
  · rename_i j
    split at h
    · rename_i c' fs' e
      split at h
      · rename_i hc
        subst hc
        cases h
        obtain ⟨dx, vs, e', rs⟩ := sm.cell _ _ e
        cases r
        exact ⟨j, dx, vs, rfl, rfl, e, e', rs⟩
      · cases h
    · cases h
  · cases h
def mFld (c f : Nat) (o : EM U) : EM U := fun e S => (o e S).bind fun u S1 => match insAt c u S1 with
  | some fs => match getF fs f with
    | some v => .ok v S1
    | none => .bad
  | none => .bad
theorem eFld {o : Expr} {f : Nat} {x : Str} (ho : PE X o (tE C W ma)) (M : FldI C c f) (hx : C.fld f = x) (hb : attributeBase o x X.env (eval o X.env) = eval o X.env := by rfl) (hK : X.K = C.K := by rfl) : PE X (.Attribute o x pos) (tE C W (mFld c f ma)) := by
  subst hx
  refine PE_imp (pe_fld ho hb) fun σ H Q ⟨w, env, S, at_, p⟩ => tE_mono (fun x H1 ⟨w1, u, S1, at1, l1, r1, p1⟩ => ?_) (tE_of at_ p)
  cases hfs : insAt c u S1 with
  | none => simp only [hfs] at p1; exact p1.elim
  | some fs =>
    cases hv : getF fs f with
    | none => simp only [hfs, hv] at p1; exact p1.elim
    | some z =>
      simp only [hfs, hv] at p1
      obtain ⟨j, dx, vs, rfl, rfl, e1, e2, r2⟩ := insAt_ok at1.s r1 hfs
      obtain ⟨v, hl, rv⟩ := look_fld M.inj r2 hv
      exact ⟨w1.rho j, C.adr c, dx, vs, v, rfl, by rw [← at1.h]; exact e2, by rw [hK]; exact M.cl, by rw [hK]; exact M.no, hl, by rw [← at1.h]; exact p1.ok (Le.refl _) at1.s rv⟩
end
end OD
end

section
set_option Elab.async false
set_option linter.all false
set_option autoImplicit false
set_option maxRecDepth 100000
set_option maxHeartbeats 4000000
/-! OD6: subscripts, slices, built-ins, methods of lists -/
namespace OD
open PySem L2

section
variable {X : Cx} {C : Ct} {W : WX} {pos : Pos} {a b : Expr} {ma mb : EM U} {w : Wd} {S : Sto}
/-! ### a[i] -/
theorem atI_rel {us : List U} {vs : List V} {i : Int} {u : U} (r : RVs C w us vs) (h : atI us i = some u) : ∃ v, atI vs i = some v ∧ RV C w u v := by
  unfold atI at h ⊢
  rw [← r.length]
  cases e : ixN us.length i with
  | none => rw [e] at h; cases h
  | some j => rw [e] at h; exact r.get h
def fIx (u v : U) (S : Sto) : Option (U × Sto) := match u, v with
  | .tup xs, .int i => match atI xs i with
    | some z => some (z, S)
    | none => none
  | .str s, .int i => if s.length ≤ sizeLine then match atI s i with
    | some c => some (.str [c], S)
    | none => none else none
  | .scr ns, .int i => match atI ns i with
    | some z => some (.int z, S)
    | none => none
  | .ref j, .int i => match S[j]? with
    | some (.lst xs) => match atI xs i with
      | some z => some (z, S)
      | none => none
    | some (.rom xs) => match atI xs i with
      | some z => some (z, S)
      | none => none
    | _ => none
  | _, _ => none
theorem ixOk (hK : X.K = C.K) : IxR X (rB C fIx) := by
  intro value slice pins s σ H x y v u Q I rx ry ⟨w, a, b, S, e, sm, ra, rb, p⟩ hs
  subst e
  unfold fIx at p
  split at p
  · split at p
    · rename_i xs i z hz
      cases rb
      cases ra with
      | tup e1 r1 =>
        obtain ⟨v', h1, r2⟩ := atI_rel r1 hz
        exact ix_tup value slice pins s σ _ _ _ v u Q I rx ry ⟨_, _, _, _, rfl, rfl, SqT.of e1, h1, p.pure rfl rfl sm r2⟩ hs
    · exact p.elim
  · split at p
    · rename_i hl
      split at p
      · rename_i c hc
        cases rb; cases ra
        exact ix_str value slice pins s σ _ _ _ v u Q I rx ry ⟨_, _, c, rfl, rfl, by rw [toS_len]; exact hl, by rw [toS_list]; exact hc, p.pure rfl rfl sm (.str [c])⟩ hs
      · exact p.elim
    · exact p.elim
  · split at p
    · rename_i z hz
      cases rb; cases ra
      obtain ⟨v', h1, r2⟩ := atI_rel (rv_ints (C := C) (w := w) C.ns) (i := _) (u := .int z) (by
        unfold atI at hz ⊢
        rw [List.length_map]
        cases q : ixN C.ns.length _ with
        | none => rw [q] at hz; cases hz
        | some j => rw [q] at hz; simp only [Option.bind_some] at hz ⊢; rw [List.getElem?_map, hz]; rfl)
      exact ix_list value slice pins s σ _ _ _ v u Q I rx ry ⟨_, _, _, _, rfl, rfl, by rw [hK]; exact sm.scr.sq, h1, p.pure rfl rfl sm r2⟩ hs
    · exact p.elim
  · split at p
    · rename_i xs e1
      split at p
      · rename_i z hz
        obtain ⟨vs, e2, r1⟩ := sm.cell _ _ e1
        cases rb; cases ra
        obtain ⟨v', h1, r2⟩ := atI_rel r1 hz
        exact ix_list value slice pins s σ _ _ _ v u Q I rx ry ⟨_, _, _, _, rfl, rfl, SqL.of e2, h1, p.pure rfl rfl sm r2⟩ hs
      · exact p.elim
    · rename_i xs e1
      split at p
      · rename_i z hz
        obtain ⟨o, vs, e2, r1⟩ := sm.cell _ _ e1
        cases rb; cases ra
        obtain ⟨v', h1, r2⟩ := atI_rel r1 hz
        exact ix_list value slice pins s σ _ _ _ v u Q I rx ry ⟨_, _, _, _, rfl, rfl, .inl (.inr ⟨o, e2⟩), h1, p.pure rfl rfl sm r2⟩ hs
      · exact p.elim
    · exact p.elim
  · exact p.elim
theorem eIx (ha : PE X a (tE C W ma)) (hb : PE X b (tE C W mb)) (hs : PlainIx b := by exact fun _ _ => rfl) (hK : X.K = C.K := by rfl) : PE X (.Subscript a b pos) (tE C W (mOp fIx ma mb)) :=
  PE_imp (pe_ix (ixOk hK) ha hb hs) fun _ _ _ t => tOp_of t
/-- d[k], k there -/
def fDget (u v : U) (S : Sto) : Option (U × Sto) := match u with
  | .ref j => match S[j]? with
    | some c => match dicGet c v with
      | some (some z) => some (z, S)
      | _ => none
    | none => none
  | _ => none
theorem eDget (ha : PE X a (tE C W ma)) (hb : PE X b (tE C W mb)) (hu : X.A.units + 1 < cLine) (hs : NoSl b := by exact fun _ _ => rfl) : PE X (.Subscript a b pos) (tE C W (mOp fDget ma mb)) :=
  PE_imp (pe_dget hu ha hb hs) fun σ H Q ⟨w, env, S, at_, p⟩ => tE_mono (fun x H1 ⟨w1, u, S1, at1, l1, r1, p1⟩ => tE_mono (fun y H2 ⟨w2, v, S2, at2, l2, r2, p2⟩ => by
    have p3 := PsO_of p2
    unfold fDget at p3
    split at p3
    · split at p3
      · rename_i c e1
        split at p3
        · rename_i z hz
          obtain ⟨o', g, h1, h2⟩ := dicGet_ok at2.s e1 r2 hz
          obtain ⟨v', e3, r3⟩ := h1 z rfl
          subst e3
          cases r1 with
          | ref hi =>
            rw [← l2.rho _ hi, ← at2.h]
            exact ⟨_, v', rfl, g, p3.pure rfl rfl at2.s r3⟩
        · exact p3.elim
      · exact p3.elim
    · exact p3.elim) (tE_of at1 p1)) (tE_of at_ p)
/-! ### a[lo:hi] -/
def cutU {α : Type} (xs : List α) (lo hi : Option Int) : List α := (xs.drop (HT.sIx xs.length 0 lo)).take (HT.sIx xs.length xs.length hi - HT.sIx xs.length 0 lo)
theorem cut_rel {us : List U} {vs : List V} (r : RVs C w us vs) (lo hi : Option Int) : RVs C w (cutU us lo hi) (cutV vs lo hi) := by
  unfold cutU cutV
  rw [← r.length]
  exact (r.drop _).take _
def fSl (u : U) (lo hi : Option Int) (S : Sto) : Option (U × Sto) := match u with
  | .scr ns => some (.ref S.length, S ++ [.lst (cutU (ns.map U.int) lo hi)])
  | .tup xs => some (.tup (cutU xs lo hi), S)
  | .ref j => match S[j]? with
    | some (.lst xs) => some (.ref S.length, S ++ [.lst (cutU xs lo hi)])
    | some (.rom xs) => some (.ref S.length, S ++ [.lst (cutU xs lo hi)])
    | _ => none
  | _ => none
def rSlU (C : Ct) : V → Option Int → Option Int → Hp → VK → Prop := fun x lo hi H Q => ∃ w u S, w.H = H ∧ Sim C w S ∧ RV C w u x ∧ PsO C w (fSl u lo hi S) Q
theorem cut_whole {xs : List V} {lo hi : Option Int} (h : HT.sIx xs.length 0 lo = 0 ∧ HT.sIx xs.length xs.length hi = xs.length) : cutV xs lo hi = xs := by
  unfold cutV
  rw [h.1, h.2]
  simp
theorem slOk (hK : X.K = C.K) : SlR X (rSlU C) := by
  intro pins s σ H x v vl vu lo hi sl Q I rx hsl pl pu ⟨w, u, S, e, sm, ru, p⟩
  subst e
  unfold fSl at p
  split at p
  · cases ru
    refine sl_list pins s σ _ _ v vl vu lo hi sl Q I rx hsl pl pu ⟨_, _, rfl, by rw [hK]; exact sm.scr.sq, fun q hq => ?_⟩
    obtain ⟨s2, l2⟩ := sm.new (o := .lst (cutV (C.ns.map V.int) lo hi)) (c := .lst (cutU (C.ns.map U.int) lo hi)) hq fun w' l e => ⟨_, by rw [e]; exact upd_same, cut_rel (rv_ints C.ns) lo hi⟩
    exact p.go rfl l2 s2 (new_ref sm)
  · cases ru with
    | tup e1 r1 =>
      refine sl_tupA pins s σ _ _ v vl vu lo hi sl Q I rx hsl pl pu ⟨_, _, rfl, SqT.of e1, fun hw => ?_, fun hw q hq => ?_⟩
      · have r2 := cut_rel r1 lo hi
        rw [cut_whole hw] at r2
        exact p.pure rfl rfl sm (.tup e1 r2)
      · obtain ⟨s2, l2⟩ := sm.upd (o := .tup (cutV _ lo hi)) hq
        exact p.go rfl l2 s2 (.tup upd_same ((cut_rel r1 lo hi).le l2))
  · split at p
    · rename_i xs e1
      obtain ⟨vs, e2, r1⟩ := sm.cell _ _ e1
      cases ru
      refine sl_list pins s σ _ _ v vl vu lo hi sl Q I rx hsl pl pu ⟨_, _, rfl, SqL.of e2, fun q hq => ?_⟩
      obtain ⟨s2, l2⟩ := sm.new (o := .lst (cutV vs lo hi)) (c := .lst (cutU xs lo hi)) hq fun w' l e => ⟨_, by rw [e]; exact upd_same, (cut_rel r1 lo hi).le l⟩
      exact p.go rfl l2 s2 (new_ref sm)
    · rename_i xs e1
      obtain ⟨o, vs, e2, r1⟩ := sm.cell _ _ e1
      cases ru
      refine sl_list pins s σ _ _ v vl vu lo hi sl Q I rx hsl pl pu ⟨_, _, rfl, .inl (.inr ⟨o, e2⟩), fun q hq => ?_⟩
      obtain ⟨s2, l2⟩ := sm.new (o := .lst (cutV vs lo hi)) (c := .lst (cutU xs lo hi)) hq fun w' l e => ⟨_, by rw [e]; exact upd_same, (cut_rel r1 lo hi).le l⟩
      exact p.go rfl l2 s2 (new_ref sm)
    · exact p.elim
  · exact p.elim
abbrev EO := EM (Option Int)
def RI (_ : Wd) (a b : Option Int) : Prop := a = b
def tO (C : Ct) (W : WX) (m : EO) : TO := fun σ H Q => ∃ w env S, At C w env S σ H ∧ Ps C W σ w (m env S) RI Q
theorem PO_imp {e : Option Expr} {t t' : TO} (h : PO X e t) (i : ∀ σ H Q, t' σ H Q → t σ H Q) : PO X e t' := ⟨fun pins s σ H Q I q => h.run pins s σ H Q I (i _ _ _ q)⟩
def moN : EO := fun _ S => .ok none S
def moS (m : EM U) : EO := fun e S => (m e S).bind fun u S1 => match u with
  | .int i => .ok (some i) S1
  | _ => .bad
theorem oN : PO X none (tO C W moN) := PO_imp po_none fun σ H Q ⟨w, env, S, a, p⟩ => by
  show Q none H
  rw [← a.h]
  exact p.ok (Le.refl _) a.s rfl
theorem oS {e : Expr} {m : EM U} (h : PE X e (tE C W m)) : PO X (some e) (tO C W (moS m)) := PO_imp (po_some h) fun σ H Q ⟨w, env, S, at_, p⟩ => tE_mono (fun x H1 ⟨w1, u, S1, at1, l1, r1, p1⟩ => by
  cases r1 with
  | int i => exact ⟨i, rfl, by rw [← at1.h]; exact p1.ok (Le.refl _) at1.s rfl⟩
  | _ => exact p1.elim) (tE_of at_ p)
theorem tO_of {α β : Type} {m : EO} {g : Option Int → Sto → Rs α} {R : Wd → α → β → Prop} {Q : β → Hp → Prop} {σ : St} {H : Hp} {env : Env} (a : At C w env S σ H) (p : Ps C W σ w ((m env S).bind g) R Q) :
    tO C W m σ H fun x H1 => ∃ w1 S1, At C w1 env S1 σ H1 ∧ Le w w1 ∧ Ps C W σ w1 (g x S1) R Q :=
  ⟨w, env, S, a, Ps_mono (fun v H' ⟨w1, u, S1, e, l, s, r, p⟩ => ⟨w1, S1, by rw [← e]; exact a.go l s, l, by cases r; exact p⟩) (Ps_bind p)⟩
theorem tO_mono {m : EO} {σ : St} {H : Hp} {Q Q' : Option Int → Hp → Prop} (h : ∀ v H', Q v H' → Q' v H') (t : tO C W m σ H Q) : tO C W m σ H Q' := by
  obtain ⟨w, env, S, a, p⟩ := t
  exact ⟨w, env, S, a, Ps_mono h p⟩
def mSl (m : EM U) (lo hi : EO) : EM U := fun e S => (m e S).bind fun u S1 => (lo e S1).bind fun l S2 => (hi e S2).bind fun h S3 => lift (fSl u l h S3)
theorem eSl {e : Expr} {m : EM U} {lo hi : Option Expr} {ml mh : EO} {p2 : Pos} (he : PE X e (tE C W m)) (hl : PO X lo (tO C W ml)) (hh : PO X hi (tO C W mh)) (hK : X.K = C.K := by rfl) : PE X (.Subscript e (.Slice lo hi none p2) pos) (tE C W (mSl m ml mh)) :=
  PE_imp (pe_slice (slOk (C := C) hK) he hl hh) fun σ H Q ⟨w, env, S, at_, p⟩ => tE_mono (fun x H1 ⟨w1, u, S1, at1, l1, r1, p1⟩ => tO_mono (fun l H2 ⟨w2, S2, at2, l2, p2⟩ => tO_mono (fun h H3 ⟨w3, S3, at3, l3, p3⟩ =>
    ⟨w3, u, S3, at3.h, at3.s, (r1.le l2).le l3, PsO_of p3⟩) (tO_of at2 p2)) (tO_of at1 p1)) (tE_of at_ p)
/-! ### built-in functions and types, called -/
def mB (f : List U → Sto → Option (U × Sto)) (ms : EM (List U)) : EM U := fun e S => (ms e S).bind fun us S1 => lift (f us S1)
theorem tCB_of {f : List U → Sto → Option (U × Sto)} {ms : EM (List U)} {σ : St} {H : Hp} {Q : VK} (t : tE C W (mB f ms) σ H Q) : tCB (rN C f) (tA C W ms) σ H Q := by
  obtain ⟨w, env, S, at_, p⟩ := t
  exact tA_mono (fun xs H1 ⟨w1, us, S1, at1, l1, r1, p1⟩ => ⟨w1, us, S1, at1.h, at1.s, r1, PsO_of p1⟩) (tA_of at_ p)
theorem eB {id : String} {f : List U → Sto → Option (U × Sto)} {x : Str} {p : Pos} {e : Expr} {es : List Expr} {ms : EM (List U)} (hc : CallR X (.builtin id) (rN C f)) (hm : X.mg x = none) (ha : PA X (e :: es) (tA C W ms)) (hg : Gl X x := by rfl) (hv : bootBuiltins x = some (.builtin id) := by decide +kernel)
    (hn : x ≠ "__name__" := by decide) (hdb : (x == ("__debug__" : Str)) = false := by decide)
    (he : starEach (e :: es) X.env = (false, eval e X.env) :: starEach es X.env := by rfl) (hpl : (backTo pos (starEach es X.env)).any (·.1) = false := by rfl) : PE X (.Call (.Name x p) (e :: es) [] pos) (tE C W (mB f ms)) :=
  PE_imp (pe_callB hc hg hm hv ha hn hdb he hpl) fun _ _ _ t => tCB_of t
theorem eTy {T : String} {f : List U → Sto → Option (U × Sto)} {x : Str} {p : Pos} {e : Expr} {es : List Expr} {ms : EM (List U)} (hc : CallR X (.type T) (rN C f)) (hm : X.mg x = none) (ha : PA X (e :: es) (tA C W ms)) (hg : Gl X x := by rfl) (hv : bootBuiltins x = some (.type T) := by decide +kernel)
    (hn : x ≠ "__name__" := by decide) (hdb : (x == ("__debug__" : Str)) = false := by decide)
    (he : starEach (e :: es) X.env = (false, eval e X.env) :: starEach es X.env := by rfl) (hpl : (backTo pos (starEach es X.env)).any (·.1) = false := by rfl) : PE X (.Call (.Name x p) (e :: es) [] pos) (tE C W (mB f ms)) :=
  PE_imp (pe_callTy hc hg hm hv ha hn hdb he hpl) fun _ _ _ t => tCB_of t
theorem RVs.one {u : U} {xs : List V} (r : RVs C w [u] xs) : ∃ v, xs = [v] ∧ RV C w u v := by
  cases r with
  | cons r t => cases t; exact ⟨_, rfl, r⟩
theorem RVs.two {u u' : U} {xs : List V} (r : RVs C w [u, u'] xs) : ∃ v v', xs = [v, v'] ∧ RV C w u v ∧ RV C w u' v' := by
  cases r with
  | cons r t =>
    obtain ⟨v, rfl, r'⟩ := t.one
    exact ⟨_, _, rfl, r, r'⟩
def fLen (us : List U) (S : Sto) : Option (U × Sto) := match us with
  | [.str s] => if s.length ≤ sizeLine then some (.int s.length, S) else none
  | [.tup xs] => some (.int xs.length, S)
  | [.scr ns] => some (.int ns.length, S)
  | [.ref j] => match S[j]? with
    | some (.lst xs) => some (.int xs.length, S)
    | some (.rom xs) => some (.int xs.length, S)
    | some (.dic xs) => some (.int xs.length, S)
    | some (.dit xs) => some (.int xs.length, S)
    | _ => none
  | _ => none
theorem cLen (hK : X.K = C.K := by rfl) : CallR X (.builtin "len") (rN C fLen) := by
  intro pins s σ H xs us Q I rv ⟨w, zs, S, e, sm, rz, p⟩
  subst e
  unfold fLen at p
  split at p
  · split at p
    · rename_i h
      obtain ⟨v, rfl, r⟩ := rz.one
      cases r
      exact call_len_str pins s σ _ _ us Q I rv ⟨_, rfl, by rw [toS_len]; exact h, by rw [toS_len]; exact p.pure rfl rfl sm (.int _)⟩
    · exact p.elim
  · obtain ⟨v, rfl, r⟩ := rz.one
    cases r with
    | tup e1 r1 => exact call_len_seq pins s σ _ _ us Q I rv ⟨_, _, rfl, .inr (SqT.of e1), by rw [← r1.length]; exact p.pure rfl rfl sm (.int _)⟩
  · obtain ⟨v, rfl, r⟩ := rz.one
    cases r
    exact call_len_seq pins s σ _ _ us Q I rv ⟨_, _, rfl, .inl (by rw [hK]; exact sm.scr.sq), by rw [List.length_map]; exact p.pure rfl rfl sm (.int _)⟩
  · obtain ⟨v, rfl, r⟩ := rz.one
    split at p
    · rename_i e1
      obtain ⟨vs, e2, r1⟩ := sm.cell _ _ e1
      cases r
      exact call_len_seq pins s σ _ _ us Q I rv ⟨_, _, rfl, .inl (SqL.of e2), by rw [← r1.length]; exact p.pure rfl rfl sm (.int _)⟩
    · rename_i e1
      obtain ⟨o, vs, e2, r1⟩ := sm.cell _ _ e1
      cases r
      exact call_len_seq pins s σ _ _ us Q I rv ⟨_, _, rfl, .inl (.inl (.inr ⟨o, e2⟩)), by rw [← r1.length]; exact p.pure rfl rfl sm (.int _)⟩
    · rename_i e1
      obtain ⟨vs, e2, r1⟩ := sm.cell _ _ e1
      cases r
      exact call_lenD pins s σ _ _ us Q I rv ⟨_, _, rfl, e2, by rw [← r1.length]; exact p.pure rfl rfl sm (.int _)⟩
    · rename_i e1
      obtain ⟨vs, e2, r1⟩ := sm.cell _ _ e1
      cases r
      exact call_len_dT pins s σ _ _ us Q I rv ⟨_, _, rfl, e2, by rw [← r1.length]; exact p.pure rfl rfl sm (.int _)⟩
    · exact p.elim
  · exact p.elim
def fInt (us : List U) (S : Sto) : Option (U × Sto) := match us with
  | [.int i] => some (.int i, S)
  | [.bl b] => some (.int (if b then 1 else 0), S)
  | _ => none
theorem cInt : CallR X (.type "int") (rN C fInt) := by
  intro pins s σ H xs us Q I rv ⟨w, zs, S, e, sm, rz, p⟩
  subst e
  unfold fInt at p
  split at p
  · obtain ⟨v, rfl, r⟩ := rz.one
    cases r
    exact call_int1 pins s σ _ _ us Q I rv (.inl ⟨_, rfl, p.pure rfl rfl sm (.int _)⟩)
  · obtain ⟨v, rfl, r⟩ := rz.one
    cases r
    exact call_int1 pins s σ _ _ us Q I rv (.inr ⟨_, rfl, p.pure rfl rfl sm (.int _)⟩)
  · exact p.elim
def fAbs (us : List U) (S : Sto) : Option (U × Sto) := match us with
  | [.int i] => some (.int (if i < 0 then -i else i), S)
  | _ => none
theorem cAbs : CallR X (.builtin "abs") (rN C fAbs) := by
  intro pins s σ H xs us Q I rv ⟨w, zs, S, e, sm, rz, p⟩
  subst e
  unfold fAbs at p
  split at p
  · obtain ⟨v, rfl, r⟩ := rz.one
    cases r
    exact call_abs pins s σ _ _ us Q I rv ⟨_, rfl, p.pure rfl rfl sm (.int _)⟩
  · exact p.elim
def seqOf (u : U) (S : Sto) : Option (List U) := match u with
  | .tup xs => some xs
  | .scr ns => some (ns.map U.int)
  | .ref j => match S[j]? with
    | some (.lst xs) => some xs
    | some (.rom xs) => some xs
    | _ => none
  | _ => none
theorem seqOf_ok {u : U} {v : V} {xs : List U} (sm : Sim C w S) (r : RV C w u v) (h : seqOf u S = some xs) : ∃ p vs, v = .ref p ∧ RVs C w xs vs ∧ (SqL C.K w.H p vs ∨ SqT C.K w.H p vs) ∧ ((∃ ys, u = .tup ys) → w.H p = some (.tup vs)) ∧ ((∀ ys, u ≠ .tup ys) → SqL C.K w.H p vs) := by
  unfold seqOf at h
  split at h
  · cases h
    cases r with
    | tup e1 r1 => exact ⟨_, _, rfl, r1, .inr (SqT.of e1), fun _ => e1, fun q => absurd rfl (q _)⟩
  · cases h
    cases r
    exact ⟨_, _, rfl, rv_ints _, .inl sm.scr.sq, fun ⟨_, q⟩ => (nomatch q), fun _ => sm.scr.sq⟩
  · split at h
    · rename_i e1
      cases h
      obtain ⟨vs, e2, r1⟩ := sm.cell _ _ e1
      cases r
      exact ⟨_, vs, rfl, r1, .inl (SqL.of e2), fun ⟨_, q⟩ => (nomatch q), fun _ => SqL.of e2⟩
    · rename_i e1
      cases h
      obtain ⟨o, vs, e2, r1⟩ := sm.cell _ _ e1
      cases r
      exact ⟨_, vs, rfl, r1, .inl (.inl (.inr ⟨o, e2⟩)), fun ⟨_, q⟩ => (nomatch q), fun _ => .inl (.inr ⟨o, e2⟩)⟩
    · cases h
  · cases h
def fList (us : List U) (S : Sto) : Option (U × Sto) := match us with
  | [u] => match seqOf u S with
    | some xs => some (.ref S.length, S ++ [.lst xs])
    | none => none
  | _ => none
theorem cList (hK : X.K = C.K := by rfl) : CallR X (.type "list") (rN C fList) := by
  intro pins s σ H xs us Q I rv ⟨w, zs, S, e, sm, rz, p⟩
  subst e
  unfold fList at p
  split at p
  · split at p
    · rename_i xs hxs
      obtain ⟨v, rfl, r⟩ := rz.one
      obtain ⟨q, vs, rfl, r1, hq⟩ := seqOf_ok sm r hxs
      refine call_list_of pins s σ _ _ us Q I rv ⟨q, vs, rfl, by rw [hK]; exact hq.1, fun l hl => ?_⟩
      obtain ⟨s2, l2⟩ := sm.new (o := .lst vs) (c := .lst xs) hl fun w' l e => ⟨_, by rw [e]; exact upd_same, r1.le l⟩
      exact p.go rfl l2 s2 (new_ref sm)
    · exact p.elim
  · exact p.elim
def fTuple (us : List U) (S : Sto) : Option (U × Sto) := match us with
  | [u] => match seqOf u S with
    | some xs => some (.tup xs, S)
    | none => none
  | _ => none
theorem cTuple (hK : X.K = C.K := by rfl) : CallR X (.type "tuple") (rN C fTuple) := by
  intro pins s σ H xs us Q I rv ⟨w, zs, S, e, sm, rz, p⟩
  subst e
  unfold fTuple at p
  split at p
  · rename_i u
    split at p
    · rename_i xs hxs
      obtain ⟨v, rfl, r⟩ := rz.one
      obtain ⟨q, vs, rfl, r1, hq⟩ := seqOf_ok sm r hxs
      by_cases ht : ∃ ys, u = .tup ys
      · have e1 := hq.2.1 ht
        exact call_tuple_of pins s σ _ _ us Q I rv ⟨q, vs, rfl, .inr ⟨SqT.of e1, p.pure rfl rfl sm (.tup e1 r1)⟩⟩
      · refine call_tuple_of pins s σ _ _ us Q I rv ⟨q, vs, rfl, .inl ⟨by rw [hK]; exact hq.2.2 fun ys e => ht ⟨ys, e⟩, fun l hl => ?_⟩⟩
        obtain ⟨s2, l2⟩ := sm.upd (o := .tup vs) hl
        exact p.go rfl l2 s2 (.tup upd_same (r1.le l2))
    · exact p.elim
  · exact p.elim
def intsOf : List U → Option (List Int)
  | [] => some []
  | .int i :: r => (intsOf r).map (i :: ·)
  | _ => none
theorem intsOf_ok : ∀ {us : List U} {vs : List V} {ns : List Int}, RVs C w us vs → intsOf us = some ns → vs = ns.map V.int
  | _, _, _, .nil, h => by simp only [intsOf] at h; cases h; rfl
  | _, _, _, .cons (u := u) (us := us) r t, h => by
    cases r <;> simp only [intsOf] at h <;> try (cases h; done)
    cases q : intsOf us with
    | none => rw [q] at h; cases h
    | some ms => rw [q] at h; cases h; rw [intsOf_ok t q]; rfl
def fSum (us : List U) (S : Sto) : Option (U × Sto) := match us with
  | [.ref j] => match S[j]? with
    | some (.lst xs) => match intsOf xs with
      | some ns => some (.int ns.sum, S)
      | none => none
    | _ => none
  | _ => none
theorem cSum (hc : X.calm = true) : CallR X (.builtin "sum") (rN C fSum) := by
  intro pins s σ H xs us Q I rv ⟨w, zs, S, e, sm, rz, p⟩
  subst e
  unfold fSum at p
  split at p
  · split at p
    · rename_i xs e1
      split at p
      · rename_i ns hn
        obtain ⟨v, rfl, r⟩ := rz.one
        obtain ⟨vs, e2, r1⟩ := sm.cell _ _ e1
        cases r
        have e3 := intsOf_ok r1 hn
        subst e3
        exact cr_sum hc pins s σ _ _ us Q I rv ⟨_, ns, rfl, SqL.of e2, p.pure rfl rfl sm (.int _)⟩
      · exact p.elim
    · exact p.elim
  · exact p.elim
/-! ### methods of built-in types -/
def isTy (T : Nat) (u : U) (S : Sto) : Bool := match u with
  | .str _ => T == 2
  | .ref j => match S[j]? with
    | some (.lst _) => T == 0
    | some (.dic _) => T == 1
    | some (.dit _) => T == 1
    | _ => false
  | _ => false
def tyN (T : Nat) : String := if T = 0 then "list" else if T = 1 then "dict" else "str"
theorem isTy_ok {T : Nat} {u : U} {v : V} {K : PySem.W.Frag} (sm : Sim C w S) (r : RV C w u v) (h : isTy T u S = true) : tyV K (tyN T) v w.H := by
  unfold isTy at h
  split at h
  · have e := beq_iff_eq.mp h
    subst e
    cases r
    show tyN 2 = "str"
    rfl
  · split at h
    · rename_i e1
      have e := beq_iff_eq.mp h
      subst e
      obtain ⟨vs, e2, r1⟩ := sm.cell _ _ e1
      cases r
      exact .inl ⟨rfl, _, SqL.of e2⟩
    · rename_i e1
      have e := beq_iff_eq.mp h
      subst e
      obtain ⟨vs, e2, r1⟩ := sm.cell _ _ e1
      cases r
      exact .inr (.inr (.inl ⟨rfl, .inl ⟨_, e2⟩⟩))
    · rename_i e1
      have e := beq_iff_eq.mp h
      subst e
      obtain ⟨vs, e2, r1⟩ := sm.cell _ _ e1
      cases r
      exact .inr (.inr (.inl ⟨rfl, .inr ⟨_, e2⟩⟩))
    · cases h
  · cases h
def mM (T : Nat) (f : U → List U → Sto → Option (U × Sto)) (o : EM U) (ms : EM (List U)) : EM U := fun e S => (o e S).bind fun u S1 => if isTy T u S1 then (ms e S1).bind fun us S2 => lift (f u us S2) else .bad
variable {o e : Expr} {es : List Expr} {mo : EM U} {ms : EM (List U)} {name : Str} {apos cpos : Pos} {T : Nat} {id : String} {f : U → List U → Sto → Option (U × Sto)}
theorem eM (pa : PlainAttrs (tyN T)) (slot : Slot (tyN T) name id) (hty : typeOf (.builtin id) = pure (.type "method_descriptor")) (hm : MtR X id (rM C f)) (ho : PE X o (tE C W mo)) (ha : PA X (e :: es) (tA C W ms))
    (hbase : attributeBase o name X.env (eval o X.env) = eval o X.env := by rfl)
    (hfew : ((backTo cpos (starEach (e :: es) X.env)).all (fun x => !x.1) && (backToKw cpos (keywordEach [] X.env)).all (fun x => x.1.isSome) && decide ((e :: es).length + ([] : List Keyword).length + (if ([] : List Keyword).isEmpty then 0 else 1) < 30)) = true := by rfl)
    (hline : (apos.endLine == cpos.line) = true := by rfl) (hs : starEach (e :: es) X.env = (false, eval e X.env) :: starEach es X.env := by rfl) (hplain : (backTo cpos (starEach es X.env)).any (·.1) = false := by rfl) :
    PE X (.Call (.Attribute o name apos) (e :: es) [] cpos) (tE C W (mM T f mo ms)) :=
  PE_imp (pe_bm pa slot hty hm ho ha hbase hfew hline hs hplain) fun σ H Q ⟨w, env, S, at_, p⟩ => tE_mono (fun x H1 ⟨w1, u, S1, at1, l1, r1, p1⟩ => by
    split at p1
    · rename_i hi
      exact ⟨by rw [← at1.h]; exact isTy_ok at1.s r1 hi, tA_mono (fun xs H2 ⟨w2, us, S2, at2, l2, r2, p2⟩ => ⟨w2, u, us, S2, at2.h, at2.s, r1.le l2, r2, PsO_of p2⟩) (tA_of at1 p1)⟩
    · exact p1.elim) (tE_of at_ p)
theorem eM0 (pa : PlainAttrs (tyN T)) (slot : Slot (tyN T) name id) (hty : typeOf (.builtin id) = pure (.type "method_descriptor")) (hm : MtR X id (rM C f)) (ho : PE X o (tE C W mo))
    (hbase : attributeBase o name X.env (eval o X.env) = eval o X.env := by rfl) (hline : (apos.endLine == cpos.line) = true := by rfl) : PE X (.Call (.Attribute o name apos) [] [] cpos) (tE C W (mM T f mo mNil)) :=
  PE_imp (pe_bm0 pa slot hty hm ho hbase hline) fun σ H Q ⟨w, env, S, at_, p⟩ => tE_mono (fun x H1 ⟨w1, u, S1, at1, l1, r1, p1⟩ => by
    split at p1
    · rename_i hi
      have p2 : Ps C W σ w1 (lift (f u [] S1)) (RV C) Q := p1
      exact ⟨by rw [← at1.h]; exact isTy_ok at1.s r1 hi, w1, u, [], S1, at1.h, at1.s, r1, .nil, PsO_of p2⟩
    · exact p1.elim) (tE_of at_ p)
def fAppend (u : U) (us : List U) (S : Sto) : Option (U × Sto) := match u, us with
  | .ref j, [z] => match S[j]? with
    | some (.lst xs) => if xs.length < sizeLine then some (.non, S.set j (.lst (xs ++ [z]))) else none
    | _ => none
  | _, _ => none
theorem meAppend : MtR X "list.append" (rM C fAppend) := by
  intro pins s σ H x xs v us Q I rx rv ⟨w, u, zs, S, e, sm, ru, rz, p⟩
  subst e
  unfold fAppend at p
  split at p
  · rename_i j z
    split at p
    · rename_i xs e1
      split at p
      · rename_i hz
        obtain ⟨vs, e2, r1⟩ := sm.cell _ _ e1
        obtain ⟨vz, rfl, r2⟩ := rz.one
        cases ru
        obtain ⟨s2, l2⟩ := sm.put (o := .lst (vs ++ [vz])) (c := .lst (xs ++ [z])) e1 rfl fun w' l e => ⟨_, by rw [e]; exact upd_same, (r1.append (.cons r2 .nil)).le l⟩
        exact mt_append pins s σ _ _ _ v us Q I rx rv ⟨_, vs, vz, rfl, rfl, e2, by rw [← r1.length]; exact hz, p.go rfl l2 s2 .non⟩
      · exact p.elim
    · exact p.elim
  · exact p.elim
def fPop (u : U) (us : List U) (S : Sto) : Option (U × Sto) := match u, us with
  | .ref j, [] => match S[j]? with
    | some (.lst xs) => match xs[xs.length - 1]? with
      | some z => some (z, S.set j (.lst xs.dropLast))
      | none => none
    | _ => none
  | _, _ => none
theorem mePop : MtR X "list.pop" (rM C fPop) := by
  intro pins s σ H x xs v us Q I rx rv ⟨w, u, zs, S, e, sm, ru, rz, p⟩
  subst e
  unfold fPop at p
  split at p
  · rename_i j
    split at p
    · rename_i xs e1
      split at p
      · rename_i z hz
        obtain ⟨vs, e2, r1⟩ := sm.cell _ _ e1
        cases rz
        cases ru
        obtain ⟨vz, hv, r2⟩ := r1.get hz
        obtain ⟨s2, l2⟩ := sm.put (o := .lst vs.dropLast) (c := .lst xs.dropLast) e1 rfl fun w' l e => ⟨_, by rw [e]; exact upd_same, (r1.dropLast).le l⟩
        exact mt_pop pins s σ _ _ _ v us Q I rx rv ⟨_, vs, vz, rfl, rfl, e2, by rw [← r1.length]; exact hv, p.go rfl l2 s2 (r2.le l2)⟩
      · exact p.elim
    · exact p.elim
  · exact p.elim
def fPopAt (u : U) (us : List U) (S : Sto) : Option (U × Sto) := match u, us with
  | .ref j, [.int i] => match S[j]? with
    | some (.lst xs) => if -(2 ^ 63) ≤ i ∧ i < 2 ^ 63 then match seqIndex? i xs.length with
      | some k => match xs[k]? with
        | some z => some (z, S.set j (.lst (xs.eraseIdx k)))
        | none => none
      | none => none else none
    | _ => none
  | _, _ => none
theorem mePopAt : MtR X "list.pop" (rM C fPopAt) := by
  intro pins s σ H x xs v us Q I rx rv ⟨w, u, zs, S, e, sm, ru, rz, p⟩
  subst e
  unfold fPopAt at p
  split at p
  · rename_i j i
    split at p
    · rename_i xs e1
      split at p
      · rename_i hb
        split at p
        · rename_i k hk
          split at p
          · rename_i z hz
            obtain ⟨vs, e2, r1⟩ := sm.cell _ _ e1
            obtain ⟨vi, rfl, ri⟩ := rz.one
            cases ri
            cases ru
            obtain ⟨vz, hv, r2⟩ := r1.get hz
            obtain ⟨s2, l2⟩ := sm.put (o := .lst (vs.eraseIdx k)) (c := .lst (xs.eraseIdx k)) e1 rfl fun w' l e => ⟨_, by rw [e]; exact upd_same, (r1.eraseIdx k).le l⟩
            exact mt_popAt pins s σ _ _ _ v us Q I rx rv ⟨_, vs, i, k, vz, rfl, rfl, e2, hb.1, hb.2, by rw [← r1.length]; exact hk, hv, p.go rfl l2 s2 (r2.le l2)⟩
          · exact p.elim
        · exact p.elim
      · exact p.elim
    · exact p.elim
  · exact p.elim
end
end OD
end

section
set_option Elab.async false
set_option linter.all false
set_option autoImplicit false
set_option maxRecDepth 100000
set_option maxHeartbeats 4000000
/-! OD7: statements -/
namespace OD
open PySem L2

def Rs.st {α : Type} (r : Rs α) (e : Env) (f : α → Sto → Out) : Out := match r with
  | .ok a S => f a S
  | .ex c g S => .ex c g e S
  | .bad => .bad
def Out.seq (o : Out) (f : Env → Sto → Out) : Out := match o with
  | .nx e S => f e S
  | o => o
def mSkip : SM := fun e S => .nx e S
def sBadM : SM := fun _ _ => .bad
def mSeq (a b : SM) : SM := fun e S => (a e S).seq b
def mRet (m : EM U) : SM := fun e S => (m e S).st e fun u S1 => .rt u S1
def mRetN : SM := fun _ S => .rt .non S
def mExpr (m : EM U) : SM := fun e S => (m e S).st e fun _ S1 => .nx e S1
def mIfS (t : EM Bool) (a b : SM) : SM := fun e S => (t e S).st e fun k S1 => match k with
  | true => a e S1
  | false => b e S1
def mBreak : SM := fun e S => .bk e S
def mCont : SM := fun e S => .ct e S

section
variable {X : Cx} {C : Ct} {W : WX} {pos : Pos} {w w1 : Wd} {S : Sto} {σ : St} {H : Hp} {env : Env} {D : Ends}
theorem Ps_st {α β : Type} {r : Rs α} {f : α → Sto → Out} {R : Wd → α → β → Prop} (a : EnvR C w env σ) (p : PsS C W D w (r.st env f)) :
    Ps C W σ w r R (fun x H1 => ∃ w1 u S1, w1.H = H1 ∧ Le w w1 ∧ Sim C w1 S1 ∧ R w1 u x ∧ PsS C W D w1 (f u S1)) := by
  cases r with
  | ok u S' => exact fun w1 v l s q => ⟨w1, u, S', rfl, l, s, q, p.le l⟩
  | ex c g S' => exact fun w1 d l s q => p w1 σ d l s (a.le l) q
  | bad => exact p
theorem tE_st {m : EM U} {f : U → Sto → Out} (a : At C w env S σ H) (p : PsS C W D w ((m env S).st env f)) :
    tE C W m σ H fun x H1 => ∃ w1 u S1, At C w1 env S1 σ H1 ∧ Le w w1 ∧ RV C w1 u x ∧ PsS C W D w1 (f u S1) :=
  ⟨w, env, S, a, Ps_mono (fun v H' ⟨w1, u, S1, e, l, s, r, p⟩ => ⟨w1, u, S1, by rw [← e]; exact a.go l s, l, r, p⟩) (Ps_st a.e p)⟩
theorem tT_st {m : EM Bool} {f : Bool → Sto → Out} (a : At C w env S σ H) (p : PsS C W D w ((m env S).st env f)) :
    tT C W m σ H fun x H1 => ∃ w1 S1, At C w1 env S1 σ H1 ∧ Le w w1 ∧ PsS C W D w1 (f x S1) :=
  ⟨w, env, S, a, Ps_mono (fun v H' ⟨w1, u, S1, e, l, s, r, p⟩ => ⟨w1, S1, by rw [← e]; exact a.go l s, l, by cases r; exact p⟩) (Ps_st a.e p)⟩
theorem tS_mono {m : SM} {D D' : Ends} (h1 : ∀ σ H, D.nx σ H → D'.nx σ H) (h2 : ∀ v H, D.rt v H → D'.rt v H) (h3 : ∀ σ H, D.bk σ H → D'.bk σ H) (h4 : ∀ σ H, D.ct σ H → D'.ct σ H) (t : tS C W m D σ H) : tS C W m D' σ H := by
  obtain ⟨w, env, S, a, p⟩ := t
  refine ⟨w, env, S, a, ?_⟩
  cases e : m env S with
  | nx e' S' => rw [e] at p; exact fun w' σ l s r => h1 _ _ (p w' σ l s r)
  | rt e' S' => rw [e] at p; exact fun w' σ l s r => h2 _ _ (p w' σ l s r)
  | bk e' S' => rw [e] at p; exact fun w' σ l s r => h3 _ _ (p w' σ l s r)
  | ct e' S' => rw [e] at p; exact fun w' σ l s r => h4 _ _ (p w' σ l s r)
  | ex c f e' S' => rw [e] at p; exact p
  | bad => rw [e] at p; exact p
theorem PsS.nx' {e : Env} (p : PsS C W D w (.nx e S)) (s : Sim C w S) (a : EnvR C w e σ) : D.nx σ w.H := p w σ (Le.refl _) s a

variable {st : Stmt} {rest : List Stmt} {a b : SM} {e : Expr} {m : EM U}
theorem ssNil : PSs X [] (tS C W mSkip) := PSs_imp pss_nil fun D σ H ⟨w, env, S, at_, p⟩ => by
  show D.nx σ H
  rw [← at_.h]
  exact p.nx' at_.s at_.e
theorem seq_of {o : Out} {f : Env → Sto → Out} (p : PsS C W D w (o.seq f)) {D' : Ends} (h1 : ∀ w' e S σ, Le w w' → Sim C w' S → EnvR C w' e σ → PsS C W D w' (f e S) → D'.nx σ w'.H)
    (h2 : D'.rt = D.rt) (h3 : D'.bk = D.bk) (h4 : D'.ct = D.ct) : PsS C W D' w o := by
  cases o with
  | nx e' S' => exact fun w' σ l s r => h1 w' e' S' σ l s r (p.le l)
  | rt e' S' => intro w' σ l s r; rw [h2]; exact p w' σ l s r
  | bk e' S' => intro w' σ l s r; rw [h3]; exact p w' σ l s r
  | ct e' S' => intro w' σ l s r; rw [h4]; exact p w' σ l s r
  | ex c f e' S' => exact p
  | bad => exact p
theorem ssCons (h1 : PS X st (tS C W a)) (h2 : PSs X rest (tS C W b)) : PSs X (st :: rest) (tS C W (mSeq a b)) :=
  PSs_imp (pss_cons h1 h2) fun D σ H ⟨w, env, S, at_, p⟩ => ⟨w, env, S, at_, seq_of (D := D) p (fun w' e S σ l s r q => ⟨w', e, S, ⟨rfl, r, s⟩, q⟩) rfl rfl rfl⟩
theorem ssOne (h1 : PS X st (tS C W a)) : PSs X [st] (tS C W a) := pss_one h1
theorem sRet (he : PE X e (tE C W m)) : PS X (.Return (some e) pos) (tS C W (mRet m)) := PS_imp (ps_ret he) fun D σ H ⟨w, env, S, at_, p⟩ =>
  tE_mono (fun x H1 ⟨w1, u, S1, at1, l1, r1, p1⟩ => by rw [← at1.h]; exact p1 w1 x (Le.refl _) at1.s r1) (tE_st at_ p)
theorem sRetN : PS X (.Return none pos) (tS C W mRetN) := PS_imp ps_retN fun D σ H ⟨w, env, S, at_, p⟩ => by
  show D.rt .non H
  rw [← at_.h]
  exact p w .non (Le.refl _) at_.s .non
theorem sExpr (he : PE X e (tE C W m)) (hs : swapsWith e none pos.line X.env = pure false := by rfl) : PS X (.Expr e pos) (tS C W (mExpr m)) := PS_imp (ps_expr he hs) fun D σ H ⟨w, env, S, at_, p⟩ =>
  tE_mono (fun x H1 ⟨w1, u, S1, at1, l1, r1, p1⟩ => by rw [← at1.h]; exact p1.nx' at1.s (by rw [← at1.h] at at1; exact at1.e)) (tE_st at_ p)
theorem sDoc {x j pos'} : PS X (.Expr (.Constant (.str x) j pos) pos') (tS C W mSkip) := PS_imp ps_doc fun D σ H ⟨w, env, S, at_, p⟩ => by
  show D.nx σ H
  rw [← at_.h]
  exact p.nx' at_.s at_.e
theorem sPass : PS X (.Pass pos) (tS C W mSkip) := PS_imp ps_pass fun D σ H ⟨w, env, S, at_, p⟩ => by
  show D.nx σ H
  rw [← at_.h]
  exact p.nx' at_.s at_.e
theorem sBreak : PS X (.Break pos) (tS C W mBreak) := PS_imp ps_break fun D σ H ⟨w, env, S, at_, p⟩ => by
  show D.bk σ H
  rw [← at_.h]
  exact p w σ (Le.refl _) at_.s at_.e
theorem sCont : PS X (.Continue pos) (tS C W mCont) := PS_imp ps_continue fun D σ H ⟨w, env, S, at_, p⟩ => by
  show D.ct σ H
  rw [← at_.h]
  exact p w σ (Le.refl _) at_.s at_.e
theorem sIf {c : Expr} {s1 s2 : List Stmt} {t : EM Bool} (hc : PT X c (tT C W t)) (ha : PSs X s1 (tS C W a)) (hb : PSs X s2 (tS C W b)) : PS X (.If c s1 s2 pos) (tS C W (mIfS t a b)) :=
  PS_imp (ps_if hc ha hb) fun D σ H ⟨w, env, S, at_, p⟩ => tT_mono (fun k H1 ⟨w1, S1, at1, l1, p1⟩ => by
    cases k with
    | true => rw [if_pos rfl]; exact ⟨w1, env, S1, at1, p1⟩
    | false => rw [if_neg (by decide)]; exact ⟨w1, env, S1, at1, p1⟩) (tT_st at_ p)
theorem sBad : PS X st (tS C W sBadM) := ⟨fun _ _ _ _ _ _ t => by obtain ⟨_, _, _, _, p⟩ := t; exact p.elim⟩
theorem ssBad {sts : List Stmt} : PSs X sts (tS C W sBadM) := ⟨fun _ _ _ _ _ _ t => by obtain ⟨_, _, _, _, p⟩ := t; exact p.elim⟩
/-! ### targets -/
inductive Tgt where
  | nm (i : Nat) | tp (is : List Nat)
def setAll : List Nat → List U → Env → Option Env
  | [], [], e => some e
  | i :: is, u :: us, e => setAll is us (e.set i (some u))
  | _, _, _ => none
def setT (t : Tgt) (u : U) (e : Env) : Option Env := match t with
  | .nm i => some (e.set i (some u))
  | .tp is => match u with
    | .tup us => setAll is us e
    | _ => none
def gsOf : List Nat → TGs
  | [] => gNil
  | i :: is => gCons (gName i) (gsOf is)
def gOf (K : PySem.W.Frag) : Tgt → TG
  | .nm i => gName i
  | .tp is => gTup K is.length (gsOf is)
def slots : Tgt → List Nat
  | .nm i => [i]
  | .tp is => is
theorem wipe_set_in {i : Nat} {x : Option V} : ∀ {vs : List Nat} {σ : St}, i ∈ vs → wipe (σ.set i x) vs = wipe σ vs := by
  intro vs
  induction vs with
  | nil => intro σ h; simp at h
  | cons v vs ih =>
    intro σ h
    unfold wipe
    by_cases hv : i ∈ vs
    · rw [ih hv]
    · have e : v = i := by rcases List.mem_cons.mp h with q | q; exact q.symm; exact absurd q hv
      subst e
      have comm : ∀ (us : List Nat), v ∉ us → wipe (σ.set v x) us = (wipe σ us).set v x := by
        intro us
        induction us with
        | nil => intro _; rfl
        | cons u us ih2 =>
          intro hu
          unfold wipe
          rw [ih2 (fun q => hu (List.mem_cons_of_mem _ q)), List.set_comm]
          intro q
          exact hu (by rw [q]; exact List.mem_cons_self)
      rw [comm vs hv, List.set_set]
theorem gs_ok {Q : St → Hp → Prop} : ∀ {is : List Nat} {us : List U} {vs : List V} {env env' : Env} {σ : St}, EnvR C w env σ → RVs C w us vs → setAll is us env = some env' →
    (∀ σ2, EnvR C w env' σ2 → (∀ ls : List Nat, (∀ i ∈ is, i ∈ ls) → wipe σ2 ls = wipe σ ls) → Q σ2 H) → gsOf is vs σ H Q
  | [], [], _, env, env', σ, a, .nil, h, q => by
    simp only [setAll, Option.some.injEq] at h
    subst h
    exact ⟨rfl, q σ a fun _ _ => rfl⟩
  | [], _ :: _, _, _, _, _, _, _, h, _ => by simp [setAll] at h
  | _ :: _, [], _, _, _, _, _, _, h, _ => by simp [setAll] at h
  | i :: is, u :: us, _, env, env', σ, a, .cons (v := v) r t, h, q => by
    refine ⟨v, _, rfl, ?_⟩
    exact gs_ok (a.set (.some r) i) t h fun σ2 a2 h2 => q σ2 a2 fun ls hl => by
      rw [h2 ls fun j hj => hl j (List.mem_cons_of_mem _ hj)]
      exact wipe_set_in (hl i List.mem_cons_self)
theorem gOf_ok {K : PySem.W.Frag} {t : Tgt} {u : U} {v : V} {env' : Env} {Q : St → Hp → Prop} (hH : w.H = H) (a : EnvR C w env σ) (r : RV C w u v) (h : setT t u env = some env')
    (q : ∀ σ2, EnvR C w env' σ2 → (∀ ls : List Nat, (∀ i ∈ slots t, i ∈ ls) → wipe σ2 ls = wipe σ ls) → Q σ2 H) : gOf K t v σ H Q := by
  cases t with
  | nm i =>
    simp only [setT, Option.some.injEq] at h
    subst h
    exact q _ (a.set (.some r) i) fun ls hl => wipe_set_in (hl i (by simp [slots]))
  | tp is =>
    cases u with
    | tup us =>
      cases r with
      | tup e1 r1 =>
        have hlen : ∀ {is : List Nat} {us : List U} {env env' : Env}, setAll is us env = some env' → us.length = is.length := by
          intro is
          induction is with
          | nil => intro us env env' h; cases us with
            | nil => rfl
            | cons _ _ => simp [setAll] at h
          | cons i is ih => intro us env env' h; cases us with
            | nil => simp [setAll] at h
            | cons u us => simp only [setAll] at h; simp [ih h]
        exact ⟨_, _, rfl, SqT.of (by rw [← hH]; exact e1), by rw [← r1.length]; exact hlen h, gs_ok a r1 h q⟩
    | _ => simp [setT] at h
theorem gNm {i : Nat} {x : Str} (hN : X.N.Nodup) (hi : X.N[i]? = some x := by rfl) (hx : Loc X.env.scope x := by first | exact .inl rfl | exact .inr rfl) (hf : X.fn x = true ∨ X.env.scope.names.lookup x = some .local := by first | exact .inl rfl | exact .inr rfl) : PG X (.Name x pos) (gOf C.K (.nm i)) := pg_name hN hi hx hf
theorem gsNil : PGs X [] (gsOf []) := pgs_nil
theorem gsCons {es : List Expr} {i : Nat} {is : List Nat} (h1 : PG X e (gOf C.K (.nm i))) (h2 : PGs X es (gsOf is)) (hs : (assignEach (e :: es) X.env).map (·.2) = assign e X.env :: (assignEach es X.env).map (·.2) := by rfl) : PGs X (e :: es) (gsOf (i :: is)) := pgs_cons h1 h2 hs
theorem gTp {es : List Expr} {k : Nat} {is : List Nat} (h : PGs X es (gsOf is)) (hc : X.calm = true := by rfl) (hK : X.K = C.K := by rfl) (hn : (assignEach es X.env).length = is.length := by rfl) (hst : (assignEach es X.env).findIdx? (·.1) = none := by rfl) :
    PG X (.Tuple es k pos) (gOf C.K (.tp is)) := by
  show PG X _ (gTup C.K is.length (gsOf is))
  rw [← hK]
  exact pg_tup hc h hn hst
def mAsg (t : Tgt) (m : EM U) : SM := fun e S => (m e S).st e fun u S1 => match setT t u e with
  | some e' => .nx e' S1
  | none => .bad
theorem sAsg {tg : Expr} {t : Tgt} (he : PE X e (tE C W m)) (hg : PG X tg (gOf C.K t)) (hs : swapsWithSole [tg] e pos.line X.env = pure false := by rfl) (hw : swappedStores [tg] e X.env = pure none := by rfl)
    (h1 : (assignEach [tg] X.env).map (·.2) = [assign tg X.env] := by rfl) : PS X (.Assign [tg] e pos) (tS C W (mAsg t m)) :=
  PS_imp (ps_asg he hg hs hw h1) fun D σ H ⟨w, env, S, at_, p⟩ => tE_mono (fun x H1 ⟨w1, u, S1, at1, l1, r1, p1⟩ => by
    cases hT : setT t u env with
    | none => simp only [hT] at p1; exact p1.elim
    | some env' =>
      simp only [hT] at p1
      exact gOf_ok at1.h at1.e r1 hT fun σ2 a2 _ => by rw [← at1.h]; exact p1.nx' at1.s a2) (tE_st at_ p)
/-- x = e -/
theorem sSet {i : Nat} {x : Str} {pos' : Pos} (hN : X.N.Nodup) (he : PE X e (tE C W m)) (hi : X.N[i]? = some x := by rfl) (hx : Loc X.env.scope x := by first | exact .inl rfl | exact .inr rfl) (hs : swapsWith e (some (.Name x pos')) pos.line X.env = pure false := by rfl)
    (hf : X.fn x = true ∨ X.env.scope.names.lookup x = some .local := by first | exact .inl rfl | exact .inr rfl) : PS X (.Assign [.Name x pos'] e pos) (tS C W (mAsg (.nm i) m)) :=
  PS_imp (ps_set hN hi hx he hs hf) fun D σ H ⟨w, env, S, at_, p⟩ => tE_mono (fun x H1 ⟨w1, u, S1, at1, l1, r1, p1⟩ => by
    show D.nx (σ.set i (some x)) H1
    rw [← at1.h]
    exact p1.nx' at1.s (at1.e.set (.some r1) i)) (tE_st at_ p)
/-- a, b = x, y -/
def mPar (i j : Nat) (ms : EM (List U)) : SM := fun e S => (ms e S).st e fun us S1 => match us with
  | [u, v] => .nx ((e.set i (some u)).set j (some v)) S1
  | _ => .bad
theorem tA_st {m : EM (List U)} {f : List U → Sto → Out} (a : At C w env S σ H) (p : PsS C W D w ((m env S).st env f)) :
    tA C W m σ H fun x H1 => ∃ w1 u S1, At C w1 env S1 σ H1 ∧ Le w w1 ∧ RVs C w1 u x ∧ PsS C W D w1 (f u S1) :=
  ⟨w, env, S, a, Ps_mono (fun v H' ⟨w1, u, S1, e, l, s, r, p⟩ => ⟨w1, u, S1, by rw [← e]; exact a.go l s, l, r, p⟩) (Ps_st a.e p)⟩
theorem sPar {i j : Nat} {x y : Str} {a b : Expr} {ms : EM (List U)} {px py pt : Pos} {kt k2 pt2} (hN : X.N.Nodup) (ha : PA X [a, b] (tA C W ms)) (hi : X.N[i]? = some x := by rfl) (hj : X.N[j]? = some y := by rfl) (hij : i ≠ j := by decide)
    (hx : X.env.scope.names.lookup x = some .local := by rfl) (hy : X.env.scope.names.lookup y = some .local := by rfl) (hc : X.calm = true := by rfl)
    (hw : swappedStores [.Tuple [.Name x px, .Name y py] kt pt] (.Tuple [a, b] k2 pt2) X.env = pure (some [x, y]) := by rfl)
    (hs : swapsWithSole [.Tuple [.Name x px, .Name y py] kt pt] (.Tuple [a, b] k2 pt2) pos.line X.env = pure false := by rfl) :
    PS X (.Assign [.Tuple [.Name x px, .Name y py] kt pt] (.Tuple [a, b] k2 pt2) pos) (tS C W (mPar i j ms)) :=
  PS_imp (ps_par hc hN hi hj hij hx hy ha hw hs) fun D σ H ⟨w, env, S, at_, p⟩ => tA_mono (fun xs H1 ⟨w1, us, S1, at1, l1, r1, p1⟩ => by
    split at p1
    · obtain ⟨v, v', rfl, r2, r3⟩ := r1.two
      refine ⟨v, v', rfl, ?_⟩
      rw [← at1.h]
      exact p1.nx' at1.s ((at1.e.set (.some r2) i).set (.some r3) j)
    · exact p1.elim) (tA_st at_ p)
/-- x op= e -/
def mAug (i : Nat) (f : U → U → Sto → Option (U × Sto)) (m : EM U) : SM := fun e S => match e[i]? with
  | some (some u) => (m e S).st e fun v S1 => (lift (f u v S1)).st e fun z S2 => .nx (e.set i (some z)) S2
  | _ => .bad
theorem sAug {i : Nat} {x : Str} {op : Operator} {f : U → U → Sto → Option (U × Sto)} {pos' : Pos} (ho : OpR X (inplaceOp op) (rB C f)) (hN : X.N.Nodup) (he : PE X e (tE C W m)) (hi : X.N[i]? = some x := by rfl) (hx : Loc X.env.scope x := by first | exact .inl rfl | exact .inr rfl)
    (hf : X.fn x = true ∨ X.env.scope.names.lookup x = some .local := by first | exact .inl rfl | exact .inr rfl) : PS X (.AugAssign (.Name x pos') op e pos) (tS C W (mAug i f m)) :=
  PS_imp (ps_aug (ti := rB C f) hN hi hx he (fun pins s σ H x y v u Q I rx ry h => ho pins s σ H x y v u Q I rx ry h) hf) fun D σ H ⟨w, env, S, at_, p⟩ => by
    unfold mAug at p
    split at p
    · rename_i u hu
      obtain ⟨v, h1, r⟩ := at_.e.get hu
      refine ⟨v, h1, tE_mono (fun y H1 ⟨w1, z, S1, at1, l1, r1, p1⟩ => ⟨w1, u, z, S1, at1.h, at1.s, r.le l1, r1, ?_⟩) (tE_st at_ p)⟩
      cases ho : f u z S1 with
      | none => rw [ho] at p1; exact p1.elim
      | some y2 =>
        rw [ho] at p1
        intro w' v' l s r2
        exact (p1.le l).nx' s ((at1.e.le l).set (.some r2) i)
    · exact p.elim
theorem iopI {op : Operator} {g : Int → Int → Int} {f : U → U → Sto → Option (U × Sto)} (h : OpR X (inplaceOp op) (rI0 fun i j => .int (g i j))) (hf : ∀ u v S, f u v S = match u, v with | .int a, .int b => some (.int (g a b), S) | _, _ => none) : OpR X (inplaceOp op) (rB C f) := by
  intro pins s σ H x y v u Q I rx ry ⟨w, a, b, S, e, sm, ra, rb, p⟩
  rw [hf] at p
  split at p
  · cases ra; cases rb
    exact h pins s σ _ _ _ v u Q I rx ry ⟨_, _, rfl, rfl, p.pure rfl e sm (.int _)⟩
  · exact p.elim
def fAddI (u v : U) (S : Sto) : Option (U × Sto) := match u, v with
  | .int a, .int b => some (.int (a + b), S)
  | _, _ => none
theorem iopAdd : OpR X (inplaceOp .Add) (rB C fAddI) := iopI iop_add fun u v S => rfl
/-- o.f = e -/
def mFldS (c f : Nat) (o m : EM U) : SM := fun e S => (m e S).st e fun v S1 => (o e S1).st e fun u S2 => match insAt c u S2 with
  | some fs => if fs.length < 1000 then match u with
    | .ref j => .nx e (S2.set j (.ins c (putU f v fs)))
    | _ => .bad else .bad
  | none => .bad
theorem sFld {o : Expr} {mo : EM U} {c f : Nat} {x : Str} {pos' : Pos} (ho : PE X o (tE C W mo)) (he : PE X e (tE C W m)) (M : FldI C c f) (hx : C.fld f = x) (hs : swapsWith e (some (.Attribute o x pos')) pos.line X.env = pure false := by rfl) (hK : X.K = C.K := by rfl) :
    PS X (.Assign [.Attribute o x pos'] e pos) (tS C W (mFldS c f mo m)) := by
  subst hx
  refine PS_imp (ps_fld ho he hs) fun D σ H ⟨w, env, S, at_, p⟩ => tE_mono (fun y H1 ⟨w1, v, S1, at1, l1, r1, p1⟩ => tE_mono (fun x H2 ⟨w2, u, S2, at2, l2, r2, p2⟩ => ?_) (tE_st at1 p1)) (tE_st at_ p)
  cases hfs : insAt c u S2 with
  | none => simp only [hfs] at p2; exact p2.elim
  | some fs =>
    simp only [hfs] at p2
    obtain ⟨j, dx, vs, rfl, rfl, e1, e2, r3⟩ := insAt_ok at2.s r2 hfs
    split at p2
    · rename_i hz
      refine ⟨_, C.adr c, dx, vs, rfl, by rw [← at2.h]; exact e2, by rw [hK]; exact M.cl, by rw [hK]; exact M.no, by rw [← r3.length]; exact hz, ?_⟩
      obtain ⟨s3, l3⟩ := at2.s.put (o := .ins (C.adr c) dx (putF (C.fld f) y vs)) (c := .ins c (putU f v fs)) e1 rfl fun w' l e => ⟨dx, _, by rw [e]; exact upd_same, put_fld M.inj ((r1.le l2).le l) (r3.le l)⟩
      rw [← at2.h]
      exact (p2.le l3).nx' s3 (at2.e.le l3)
    · exact p2.elim
/-- o.f += e, ints -/
def mFldA (c f : Nat) (o m : EM U) : SM := fun e S => (o e S).st e fun u S1 => match insAt c u S1 with
  | some fs => match getF fs f with
    | some x => (m e S1).st e fun v S2 => match x, v with
      | .int a, .int b => match u with
        | .ref j => match S2[j]? with
          | some (.ins c' fs') => if c' = c ∧ fs'.length < 1000 then .nx e (S2.set j (.ins c (putU f (.int (a + b)) fs'))) else .bad
          | _ => .bad
        | _ => .bad
      | _, _ => .bad
    | none => .bad
  | none => .bad
theorem sFldA {o : Expr} {mo : EM U} {c f : Nat} {x : Str} {tpos : Pos} (ho : PE X o (tE C W mo)) (he : PE X e (tE C W m)) (M : FldI C c f) (hx : C.fld f = x) (hK : X.K = C.K := by rfl) : PS X (.AugAssign (.Attribute o x tpos) .Add e pos) (tS C W (mFldA c f mo m)) := by
  subst hx
  refine PS_imp (ps_fldaug ho he in_add) fun D σ H ⟨w, env, S, at_, p⟩ => tE_mono (fun x H1 ⟨w1, u, S1, at1, l1, r1, p1⟩ => ?_) (tE_st at_ p)
  cases hfs : insAt c u S1 with
  | none => simp only [hfs] at p1; exact p1.elim
  | some fs =>
    cases hv : getF fs f with
    | none => simp only [hfs, hv] at p1; exact p1.elim
    | some z =>
      simp only [hfs, hv] at p1
      obtain ⟨j, dx, vs, rfl, rfl, e1, e2, r3⟩ := insAt_ok at1.s r1 hfs
      obtain ⟨v, hl, rv⟩ := look_fld M.inj r3 hv
      refine ⟨_, C.adr c, dx, vs, v, rfl, by rw [← at1.h]; exact e2, by rw [hK]; exact M.cl, by rw [hK]; exact M.no, hl, tE_mono (fun y H2 ⟨w2, q, S2, at2, l2, r2, p2⟩ => ?_) (tE_st at1 p1)⟩
      split at p2
      · rename_i za zb _
        cases e3 : S2[j]? with
        | none => simp only [e3] at p2; exact p2.elim
        | some cl =>
          cases cl with
          | ins c' fs' =>
            simp only [e3] at p2
            split at p2
            · rename_i hc
              obtain ⟨hc, hz⟩ := hc
              subst hc
              obtain ⟨dx', vs', e4, r4⟩ := at2.s.cell _ _ e3
              cases rv; cases r2
              refine ⟨_, _, rfl, rfl, dx', vs', ?_, by rw [← r4.length]; exact hz, ?_⟩
              · rw [← at2.h, ← l2.rho j (at1.s.lt e1)]; exact e4
              · obtain ⟨s3, l3⟩ := at2.s.put (o := .ins (C.adr c') dx' (putF (C.fld f) (.int _) vs')) (c := .ins c' (putU f (.int _) fs')) e3 rfl fun w' l e => ⟨dx', _, by rw [e]; exact upd_same, put_fld M.inj (.int _) (r4.le l)⟩
                rw [← at2.h, ← l2.rho j (at1.s.lt e1)]
                exact (p2.le l3).nx' s3 (at2.e.le l3)
            · exact p2.elim
          | _ => simp only [e3] at p2; exact p2.elim
      · exact p2.elim
/-- o[i] = e, a list -/
def mSetI (o i m : EM U) : SM := fun e S => (m e S).st e fun v S1 => (o e S1).st e fun u S2 => (i e S2).st e fun k S3 => match u, k with
  | .ref j, .int n => match S3[j]? with
    | some (.lst xs) => match ixN xs.length n with
      | some a => .nx e (S3.set j (.lst (xs.set a v)))
      | none => .bad
    | _ => .bad
  | _, _ => .bad
theorem sSetI {o i : Expr} {mo mi : EM U} {tpos : Pos} (ho : PE X o (tE C W mo)) (hi : PE X i (tE C W mi)) (he : PE X e (tE C W m))
    (hs : swapsWithSole [.Subscript o i tpos] e pos.line X.env = pure false := by rfl) (hw : swappedStores [.Subscript o i tpos] e X.env = pure none := by rfl) (h1 : (assignEach [.Subscript o i tpos] X.env).map (·.2) = [assign (.Subscript o i tpos) X.env] := by rfl)
    (ha : ∀ v, assign (.Subscript o i tpos) X.env v = (do let ov ← holding [v] (eval o X.env); let iv ← holding [v, ov] (eval i X.env); standAt tpos; holding [v, ov, iv] (setItem ov iv v); release [v, ov, iv] []) := by intro _; rfl) :
    PS X (.Assign [.Subscript o i tpos] e pos) (tS C W (mSetI mo mi m)) :=
  PS_imp (ps_asg he (pg_sub ho hi set_list ha) hs hw h1) fun D σ H ⟨w, env, S, at_, p⟩ => tE_mono (fun y H1 ⟨w1, v, S1, at1, l1, r1, p1⟩ => tE_mono (fun x H2 ⟨w2, u, S2, at2, l2, r2, p2⟩ => tE_mono (fun z H3 ⟨w3, k, S3, at3, l3, r3, p3⟩ => by
    cases u with
    | ref j =>
      cases k with
      | int n =>
        cases e1 : S3[j]? with
        | none => simp only [e1] at p3; exact p3.elim
        | some cl =>
          cases cl with
          | lst xs =>
            cases hz : ixN xs.length n with
            | none => simp only [e1, hz] at p3; exact p3.elim
            | some a =>
              simp only [e1, hz] at p3
              obtain ⟨vs, e2, r4⟩ := at3.s.cell _ _ e1
              cases r3
              have r2' := r2.le l3
              cases r2'
              refine ⟨_, vs, n, a, rfl, rfl, by rw [← at3.h]; exact e2, by rw [← r4.length]; exact hz, ?_⟩
              obtain ⟨s4, l4⟩ := at3.s.put (o := .lst (vs.set a y)) (c := .lst (xs.set a v)) e1 rfl fun w' l e => ⟨_, by rw [e]; exact upd_same, (RVs.set ((r1.le l2).le l3) a r4).le l⟩
              rw [← at3.h]
              exact (p3.le l4).nx' s4 (at3.e.le l4)
          | _ => simp only [e1] at p3; exact p3.elim
      | _ => exact p3.elim
    | _ => exact p3.elim) (tE_st at2 p2)) (tE_st at1 p1)) (tE_st at_ p)
/-- d[k] = e -/
def putKU {κ : Type} [DecidableEq κ] (us : List (κ × U)) (k : κ) (v : U) : List (κ × U) :=
  if (us.any fun kv => decide (kv.1 = k)) = true then us.map (fun kv => if kv.1 = k then (kv.1, v) else kv) else us ++ [(k, v)]
def dicPut (c : Cell) (u v : U) : Option Cell := match c with
  | .dic kvs => match keyU u with
    | some k => if kvs.length < sizeLine then some (.dic (putKU kvs k v)) else none
    | none => none
  | .dit kvs => match u with
    | .tup xs => match keysU xs with
      | some ks => if kvs.length < sizeLine then some (.dit (putKU kvs ks v)) else none
      | none => none
    | _ => none
  | _ => none
theorem RKs.any {κ : Type} [DecidableEq κ] {k : κ} : ∀ {us : List (κ × U)} {vs : List (κ × V)}, RKs C w id us vs → (us.any fun kv => decide (kv.1 = k)) = vs.any fun kv => decide (kv.1 = k)
  | _, _, .nil => rfl
  | _, _, .cons _ t => by rw [List.any_cons, List.any_cons, RKs.any t]; rfl
theorem RKs.app {κ : Type} {k : κ} {u : U} {v : V} (r : RV C w u v) : ∀ {us : List (κ × U)} {vs : List (κ × V)}, RKs C w id us vs → RKs C w id (us ++ [(k, u)]) (vs ++ [(k, v)])
  | _, _, .nil => .cons r .nil
  | _, _, .cons q t => .cons q (RKs.app r t)
theorem RKs.repl {κ : Type} [DecidableEq κ] {k : κ} {u : U} {v : V} (r : RV C w u v) : ∀ {us : List (κ × U)} {vs : List (κ × V)}, RKs C w id us vs → RKs C w id (us.map fun kv => if kv.1 = k then (kv.1, u) else kv) (vs.map fun kv => if kv.1 = k then (kv.1, v) else kv)
  | _, _, .nil => .nil
  | _, _, .cons (k := j) q t => by
    rw [List.map_cons, List.map_cons]
    by_cases h : j = k
    · simp only [id_eq, h, if_true]
      exact .cons r (RKs.repl r t)
    · simp only [id_eq, if_neg h]
      exact .cons q (RKs.repl r t)
theorem putK_rel {κ : Type} [DecidableEq κ] {k : κ} {u : U} {v : V} (r : RV C w u v) {us : List (κ × U)} {vs : List (κ × V)} (t : RKs C w id us vs) : RKs C w id (putKU us k u) (putK vs k v) := by
  unfold putKU putK
  rw [t.any]
  split
  · exact RKs.repl r t
  · exact RKs.app r t
theorem dicPut_ok {i : Nat} {c c' : Cell} {u z : U} {x y : V} (s : Sim C w S) (hc : S[i]? = some c) (r : RV C w u x) (rz : RV C w z y) (h : dicPut c u z = some c') :
    ∃ o, DPut w.H (w.rho i) x y (upd w.H (w.rho i) o) ∧ Sim C ⟨w.rho, w.n, upd w.H (w.rho i) o⟩ (S.set i c') ∧ Le w ⟨w.rho, w.n, upd w.H (w.rho i) o⟩ := by
  have q := s.cell i c hc
  unfold dicPut at h
  split at h
  · rename_i kvs
    obtain ⟨vs, e, rs⟩ := q
    split at h
    · rename_i k hk
      split at h
      · rename_i hz
        cases h
        have e2 := keyU_ok r hk
        subst e2
        obtain ⟨s2, l2⟩ := s.put (o := .dK (putK vs k y)) (c := .dic (putKU kvs k z)) hc rfl fun w' l e => ⟨_, by rw [e]; exact upd_same, (putK_rel rz rs).le l⟩
        exact ⟨_, DPut.k e (by rw [← rs.length]; exact hz), s2, l2⟩
      · cases h
    · cases h
  · rename_i kvs
    obtain ⟨vs, e, rs⟩ := q
    split at h
    · rename_i xs
      split at h
      · rename_i k hk
        split at h
        · rename_i hz
          cases h
          cases r with
          | tup e3 r3 =>
            have e2 := keysU_ok r3 hk
            subst e2
            obtain ⟨s2, l2⟩ := s.put (o := .dT (putK vs k y)) (c := .dit (putKU kvs k z)) hc rfl fun w' l e => ⟨_, by rw [e]; exact upd_same, (putK_rel rz rs).le l⟩
            exact ⟨_, DPut.t e e3 (by rw [← rs.length]; exact hz), s2, l2⟩
        · cases h
      · cases h
    · cases h
  · cases h
def mSetD (o i m : EM U) : SM := fun e S => (m e S).st e fun v S1 => (o e S1).st e fun u S2 => (i e S2).st e fun k S3 => match u with
  | .ref j => match S3[j]? with
    | some c => match dicPut c k v with
      | some c' => .nx e (S3.set j c')
      | none => .bad
    | none => .bad
  | _ => .bad
theorem sSetD {o i : Expr} {mo mi : EM U} {tpos : Pos} (ho : PE X o (tE C W mo)) (hi : PE X i (tE C W mi)) (he : PE X e (tE C W m)) (hu : X.A.units + 1 < cLine) (hs : swapsWith e (some (.Subscript o i tpos)) pos.line X.env = pure false := by rfl) :
    PS X (.Assign [.Subscript o i tpos] e pos) (tS C W (mSetD mo mi m)) :=
  PS_imp (ps_dput hu ho hi he hs) fun D σ H ⟨w, env, S, at_, p⟩ => tE_mono (fun y H1 ⟨w1, v, S1, at1, l1, r1, p1⟩ => tE_mono (fun x H2 ⟨w2, u, S2, at2, l2, r2, p2⟩ => tE_mono (fun z H3 ⟨w3, k, S3, at3, l3, r3, p3⟩ => by
    split at p3
    · rename_i j
      split at p3
      · rename_i c e1
        split at p3
        · rename_i c' hc
          obtain ⟨o, d, s4, l4⟩ := dicPut_ok at3.s e1 r3 ((r1.le l2).le l3) hc
          have r2' := r2.le l3
          cases r2'
          refine ⟨_, _, rfl, by rw [← at3.h]; exact d, ?_⟩
          exact (p3.le l4).nx' s4 (at3.e.le l4)
        · exact p3.elim
      · exact p3.elim
    · exact p3.elim) (tE_st at2 p2)) (tE_st at1 p1)) (tE_st at_ p)
end
end OD
end

section
set_option Elab.async false
set_option linter.all false
set_option autoImplicit false
set_option maxRecDepth 100000
set_option maxHeartbeats 4000000
/-! OD8: loops, comprehensions, defs -/
namespace OD
open PySem L2

section
variable {X : Cx} {C : Ct} {W : WX} {pos : Pos} {w w1 : Wd} {S : Sto} {σ : St} {H : Hp} {env : Env} {D : Ends}
/-! ### while -/
def whGo (t : EM Bool) (b : SM) : Nat → SM
  | 0 => fun _ _ => .bad
  | n + 1 => fun e S => (t e S).st e fun k S1 => match k with
    | false => .nx e S1
    | true => match b e S1 with
      | .nx e2 S2 => whGo t b n e2 S2
      | .ct e2 S2 => whGo t b n e2 S2
      | .bk e2 S2 => .nx e2 S2
      | o => o
/-- the most turns of a while -/
def most : Nat := 1000000000
def mWh (t : EM Bool) (b : SM) : SM := whGo t b most
def loopEnd (f : Env → Sto → Out) (o : Out) : Out := match o with
  | .nx e2 S2 => f e2 S2
  | .ct e2 S2 => f e2 S2
  | .bk e2 S2 => .nx e2 S2
  | o => o
theorem loop_of {o : Out} {f : Env → Sto → Out} (p : PsS C W D w (loopEnd f o)) {N : St → Hp → Prop} (h : ∀ w' e S σ, Le w w' → Sim C w' S → EnvR C w' e σ → PsS C W D w' (f e S) → N σ w'.H) :
    PsS C W { D with nx := N, ct := N, bk := D.nx } w o := by
  cases o with
  | nx e' S' => exact fun w' σ l s r => h w' e' S' σ l s r (p.le l)
  | rt e' S' => exact p
  | bk e' S' => exact p
  | ct e' S' => exact fun w' σ l s r => h w' e' S' σ l s r (p.le l)
  | ex c f e' S' => exact p
  | bad => exact p
theorem sWh {c : Expr} {body : List Stmt} {t : EM Bool} {b : SM} (hp : PassesOwn (model X.prog X.w) X.A X.env X.xe) (hc : PT X c (tT C W t)) (hb : PSs X body (tS C W b)) : PS X (.While c body [] pos) (tS C W (mWh t b)) := by
  refine PS_imp (ps_while hp hc hb) fun D σ H ⟨w, env, S, at_, p⟩ => ⟨fun n σ H => ∃ w env S, At C w env S σ H ∧ PsS C W D w (whGo t b n env S), ⟨most, w, env, S, at_, p⟩, ?_⟩
  rintro n σ H ⟨w, env, S, at_, p⟩
  cases n with
  | zero => exact p.elim
  | succ n =>
    refine tT_mono (fun k H1 ⟨w1, S1, at1, l1, p1⟩ => ?_) (tT_st at_ p)
    cases k with
    | false =>
      rw [if_neg (by decide), ← at1.h]
      exact p1.nx' at1.s (by rw [← at1.h] at at1; exact at1.e)
    | true =>
      rw [if_pos rfl]
      have p2 : PsS C W D w1 (loopEnd (whGo t b n) (b env S1)) := by
        cases e : b env S1 <;> simp only [e] at p1 <;> exact p1
      exact ⟨fun σ H => ∃ w env S, At C w env S σ H ∧ PsS C W D w (whGo t b n env S), fun σ' H' h => ⟨n, Nat.lt_succ_self n, h⟩, w1, env, S1, at1,
        loop_of p2 fun w' e S σ l s r q => ⟨w', e, S, ⟨rfl, r, s⟩, q⟩⟩
/-! ### what is walked -/
inductive Src where
  | its (us : List U) | cel (j : Nat) | zip2 (i j : Nat)
def zipU (xs ys : List U) : List U := List.zipWith (fun x y => .tup [x, y]) xs ys
def srcAt (x : Src) (S : Sto) : Option (List U) := match x with
  | .its us => some us
  | .cel j => match S[j]? with
    | some (.lst us) => some us
    | some (.rom us) => some us
    | _ => none
  | .zip2 i j => match S[i]?, S[j]? with
    | some (.lst us), some (.lst vs) => some (zipU us vs)
    | _, _ => none
def RSrc (C : Ct) (w : Wd) (x : Src) (J : It) : Prop := ∀ w' S', Le w w' → Sim C w' S' → ∀ us, srcAt x S' = some us →
  (∀ (i : Nat) u, us[i]? = some u → J.go i w'.H ∧ ∀ x H', J.yld i w'.H x H' → ∃ w'', w''.H = H' ∧ Le w' w'' ∧ Sim C w'' S' ∧ RV C w'' u x) ∧ J.stop us.length w'.H
theorem RSrc.le {x : Src} {J : It} (r : RSrc C w x J) (l : Le w w1) : RSrc C w1 x J := fun w' S' l' => r w' S' (l.trans l')
def tI (C : Ct) (W : WX) (m : EM Src) : TI := fun σ H R => ∃ w env S, At C w env S σ H ∧ Ps C W σ w (m env S) (RSrc C) R
theorem PI_imp {tg e : Expr} {t t' : TI} (h : PI X tg e t) (i : ∀ σ H R, t' σ H R → t σ H R) : PI X tg e t' := ⟨fun pins s σ H R I q => h.run pins s σ H R I (i _ _ _ q)⟩
theorem Ps_bnd {α β : Type} {r : Rs α} {f : α → Sto → Rs β} {R : Wd → α → It → Prop} {R' : Wd → β → It → Prop} : True := trivial
theorem tI_of {m : EM Src} {f : Src → Sto → Out} (a : At C w env S σ H) (p : PsS C W D w ((m env S).st env f)) :
    tI C W m σ H fun x H1 => ∃ w1 u S1, At C w1 env S1 σ H1 ∧ Le w w1 ∧ RSrc C w1 u x ∧ PsS C W D w1 (f u S1) :=
  ⟨w, env, S, a, Ps_mono (fun v H' ⟨w1, u, S1, e, l, s, r, p⟩ => ⟨w1, u, S1, by rw [← e]; exact a.go l s, l, r, p⟩) (Ps_st a.e p)⟩
theorem tI_mono {m : EM Src} {Q Q' : It → Hp → Prop} (h : ∀ v H', Q v H' → Q' v H') (t : tI C W m σ H Q) : tI C W m σ H Q' := by
  obtain ⟨w, env, S, a, p⟩ := t
  exact ⟨w, env, S, a, Ps_mono h p⟩
theorem itl_src {K : PySem.W.Frag} {j : Nat} {u : U} {v : V} (r : RV C w (.ref j) v) : ∃ a, v = .ref a ∧ RSrc C w (.cel j) (Itl K a) := by
  cases r with
  | ref hj =>
    refine ⟨_, rfl, fun w' S' l s us hu => ?_⟩
    have key : ∃ vs, SqL K w'.H (w.rho j) vs ∧ RVs C w' us vs ∧ (SqL K w'.H (w.rho j) vs) := by
      unfold srcAt at hu
      simp only at hu
      split at hu
      · rename_i e1
        cases hu
        obtain ⟨vs, e2, r1⟩ := s.cell _ _ e1
        rw [l.rho j hj] at e2
        exact ⟨vs, SqL.of e2, r1, SqL.of e2⟩
      · rename_i e1
        cases hu
        obtain ⟨o, vs, e2, r1⟩ := s.cell _ _ e1
        rw [l.rho j hj] at e2
        exact ⟨vs, .inl (.inr ⟨o, e2⟩), r1, .inl (.inr ⟨o, e2⟩)⟩
      · cases hu
    obtain ⟨vs, q, r1, _⟩ := key
    refine ⟨fun i u hi => ?_, ⟨vs, q, by rw [r1.length]; exact Nat.le_refl _⟩⟩
    obtain ⟨x, hx, rx⟩ := r1.get hi
    refine ⟨⟨vs, x, q, hx⟩, fun y H' ⟨e, hy⟩ => ⟨w', e.symm, Le.refl _, s, ?_⟩⟩
    have e2 := hy vs q
    rw [hx] at e2
    cases e2
    exact rx
theorem itt_src {K : PySem.W.Frag} {us : List U} {v : V} (r : RV C w (.tup us) v) : ∃ a, v = .ref a ∧ RSrc C w (.its us) (Itt K a) := by
  cases r with
  | tup e r =>
    refine ⟨_, rfl, fun w' S' l s us' hu => ?_⟩
    cases hu
    have q : SqT K w'.H _ _ := SqT.of (l.tup _ _ e)
    have r1 := r.le l
    refine ⟨fun i u hi => ?_, ⟨_, q, by rw [r1.length]; exact Nat.le_refl _⟩⟩
    obtain ⟨x, hx, rx⟩ := r1.get hi
    refine ⟨⟨_, x, q, hx⟩, fun y H' ⟨e, hy⟩ => ⟨w', e.symm, Le.refl _, s, ?_⟩⟩
    have e2 := hy _ q
    rw [hx] at e2
    cases e2
    exact rx
theorem RVs.ints : ∀ ns : List Int, RVs C w (ns.map U.int) (ns.map V.int)
  | [] => .nil
  | n :: ns => .cons (.int n) (RVs.ints ns)
theorem scr_src : RSrc C w (.its (C.ns.map U.int)) (Itl C.K C.scr) := fun w' S' l s us hu => by
  cases hu
  have q : SqL C.K w'.H C.scr (C.ns.map V.int) := s.scr.sq
  have r1 : RVs C w' (C.ns.map U.int) (C.ns.map V.int) := RVs.ints _
  refine ⟨fun i u hi => ?_, ⟨_, q, by rw [r1.length]; exact Nat.le_refl _⟩⟩
  obtain ⟨x, hx, rx⟩ := r1.get hi
  refine ⟨⟨_, x, q, hx⟩, fun y H' ⟨e, hy⟩ => ⟨w', e.symm, Le.refl _, s, ?_⟩⟩
  have e2 := hy _ q
  rw [hx] at e2
  cases e2
  exact rx
/-- a list -/
def msL (m : EM U) : EM Src := fun e S => (m e S).bind fun u S1 => match u with
  | .ref j => match S1[j]? with
    | some (.lst _) => .ok (.cel j) S1
    | some (.rom _) => .ok (.cel j) S1
    | _ => .bad
  | .scr ns => .ok (.its (ns.map U.int)) S1
  | _ => .bad
def msT (m : EM U) : EM Src := fun e S => (m e S).bind fun u S1 => match u with
  | .tup us => .ok (.its us) S1
  | _ => .bad
theorem iL {tg e : Expr} {m : EM U} (h : PE X e (tE C W m)) (hK : X.K = C.K := by rfl) : PI X tg e (tI C W (msL m)) := PI_imp (pi_list h) fun σ H R ⟨w, env, S, at_, p⟩ => tE_mono (fun x H1 ⟨w1, u, S1, at1, l1, r1, p1⟩ => by
  cases u with
  | ref j =>
    obtain ⟨a, rfl, rs⟩ := itl_src (K := X.K) (u := .non) r1
    refine ⟨a, rfl, ?_⟩
    simp only at p1
    split at p1
    · rename_i e1
      obtain ⟨vs, e2, _⟩ := at1.s.cell _ _ e1
      cases r1
      exact ⟨⟨vs, by rw [← at1.h]; exact SqL.of e2⟩, by rw [← at1.h]; exact p1.ok (Le.refl _) at1.s rs⟩
    · rename_i e1
      obtain ⟨o, vs, e2, _⟩ := at1.s.cell _ _ e1
      cases r1
      exact ⟨⟨vs, by rw [← at1.h]; exact .inl (.inr ⟨o, e2⟩)⟩, by rw [← at1.h]; exact p1.ok (Le.refl _) at1.s rs⟩
    · exact p1.elim
  | scr ns =>
    cases r1
    refine ⟨C.scr, rfl, ⟨_, by rw [hK, ← at1.h]; exact at1.s.scr.sq⟩, ?_⟩
    rw [hK, ← at1.h]
    exact p1.ok (Le.refl _) at1.s scr_src
  | _ => exact p1.elim) (tE_of at_ p)
theorem iT {tg e : Expr} {m : EM U} (h : PE X e (tE C W m)) : PI X tg e (tI C W (msT m)) := PI_imp (pi_tup h) fun σ H R ⟨w, env, S, at_, p⟩ => tE_mono (fun x H1 ⟨w1, u, S1, at1, l1, r1, p1⟩ => by
  cases u with
  | tup us =>
    obtain ⟨a, rfl, rs⟩ := itt_src (K := X.K) r1
    cases r1 with
    | tup e1 _ => exact ⟨a, rfl, ⟨_, by rw [← at1.h]; exact SqT.of e1⟩, by rw [← at1.h]; exact p1.ok (Le.refl _) at1.s rs⟩
  | _ => exact p1.elim) (tE_of at_ p)
def rngU (lo : Int) (n : Nat) : List U := (List.range n).map fun (i : Nat) => U.int (lo + (i : Int))
theorem itr_src {lo : Int} {n : Nat} : RSrc C w (.its (rngU lo n)) (Itr lo n) := fun w' S' l s us hu => by
  cases hu
  refine ⟨fun i u hi => ?_, by show n ≤ (rngU lo n).length; simp [rngU]⟩
  unfold rngU at hi
  rw [List.getElem?_map] at hi
  by_cases h : i < n
  · rw [List.getElem?_range h] at hi
    have e : u = .int (lo + (i : Int)) := by simpa using hi.symm
    subst e
    exact ⟨h, fun x H' ⟨e1, e2⟩ => ⟨w', e1.symm, Le.refl _, s, by rw [e2]; exact .int _⟩⟩
  · rw [List.getElem?_eq_none (by simpa using h)] at hi
    cases hi
def msR1 (ms : EM (List U)) : EM Src := fun e S => (ms e S).bind fun us S1 => match us with
  | [.int j] => if -(2 ^ 62) ≤ j ∧ j < 2 ^ 62 then .ok (.its (rngU 0 j.toNat)) S1 else .bad
  | _ => .bad
def msR2 (ms : EM (List U)) : EM Src := fun e S => (ms e S).bind fun us S1 => match us with
  | [.int i, .int j] => if -(2 ^ 62) ≤ i ∧ i < 2 ^ 62 ∧ -(2 ^ 62) ≤ j ∧ j < 2 ^ 62 then .ok (.its (rngU i (j - i).toNat)) S1 else .bad
  | _ => .bad
theorem iR1 {tg a : Expr} {ms : EM (List U)} {p : Pos} (hm : X.mg "range" = none) (ha : PA X [a] (tA C W ms)) (hg : Gl X "range" := by rfl) (hs : starEach [a] X.env = [(false, eval a X.env)] := by rfl) : PI X tg (.Call (.Name "range" p) [a] [] pos) (tI C W (msR1 ms)) :=
  PI_imp (pi_range1 hg hm ha hs) fun σ H R ⟨w, env, S, at_, p⟩ => tA_mono (fun xs H1 ⟨w1, us, S1, at1, l1, r1, p1⟩ => by
    split at p1
    · split at p1
      · rename_i hb
        obtain ⟨v, rfl, r⟩ := r1.one
        cases r
        exact ⟨_, rfl, hb.1, hb.2, by rw [← at1.h]; exact p1.ok (Le.refl _) at1.s itr_src⟩
      · exact p1.elim
    · exact p1.elim) (tA_of at_ p)
theorem iR2 {tg a b : Expr} {ms : EM (List U)} {p : Pos} (hm : X.mg "range" = none) (ha : PA X [a, b] (tA C W ms)) (hg : Gl X "range" := by rfl) (hs : starEach [a, b] X.env = [(false, eval a X.env), (false, eval b X.env)] := by rfl) (hs2 : starEach [b] X.env = [(false, eval b X.env)] := by rfl) : PI X tg (.Call (.Name "range" p) [a, b] [] pos) (tI C W (msR2 ms)) :=
  PI_imp (pi_range2 hg hm ha hs hs2) fun σ H R ⟨w, env, S, at_, p⟩ => tA_mono (fun xs H1 ⟨w1, us, S1, at1, l1, r1, p1⟩ => by
    split at p1
    · split at p1
      · rename_i hb
        obtain ⟨v, v', rfl, r, r'⟩ := r1.two
        cases r
        cases r'
        exact ⟨_, _, rfl, hb, by rw [← at1.h]; exact p1.ok (Le.refl _) at1.s itr_src⟩
      · exact p1.elim
    · exact p1.elim) (tA_of at_ p)
def msS (m : EM U) : EM Src := fun e S => (m e S).bind fun u S1 => match u with
  | .str s => .ok (.its (s.map fun c => .str [c])) S1
  | _ => .bad
theorem iS {tg e : Expr} {m : EM U} (h : PE X e (tE C W m)) : PI X tg e (tI C W (msS m)) := PI_imp (pi_str h) fun σ H R ⟨w, env, S, at_, p⟩ => tE_mono (fun x H1 ⟨w1, u, S1, at1, l1, r1, p1⟩ => by
  cases u with
  | str s =>
    cases r1
    refine ⟨_, rfl, ?_⟩
    rw [← at1.h]
    refine p1.ok (Le.refl _) at1.s fun w' S' l sm us hu => ?_
    cases hu
    have wk := walk_str (z := toS s)
    have hsz : (toS s).cps.size = s.length := by simp [toS]
    refine ⟨fun i u hi => ?_, ?_⟩
    · rw [List.getElem?_map] at hi
      cases hc : s[i]? with
      | none => rw [hc] at hi; cases hi
      | some c =>
        rw [hc] at hi
        cases hi
        have hlt : i < (toS s).cps.size := by rw [hsz]; exact (List.getElem?_eq_some_iff.mp hc).1
        refine ⟨wk.goes i _ hlt trivial, fun x H' hy => ?_⟩
        obtain ⟨e1, c', e2, e3⟩ := wk.yields i _ x H' hlt trivial hy
        have e4 : c' = c := by
          have : (toS s).cps[i]? = s[i]? := by simp [toS]
          rw [this, hc] at e2
          exact (Option.some.inj e2).symm
        subst e4
        exact ⟨w', e1.symm, Le.refl _, sm, by rw [e3]; exact .str [c']⟩
    · have := wk.stops w'.H trivial
      rw [hsz] at this
      simpa using this
  | _ => exact p1.elim) (tE_of at_ p)
/-! ### for -/
def forGo (x : Src) (t : Tgt) (b : SM) : Nat → Nat → SM
  | 0, _ => fun _ _ => .bad
  | n + 1, i => fun e S => match srcAt x S with
    | none => .bad
    | some us => match us[i]? with
      | none => if i = us.length then .nx e S else .bad
      | some u => match setT t u e with
        | none => .bad
        | some e' => loopEnd (forGo x t b n (i + 1)) (b e' S)
def mFor (m : EM Src) (t : Tgt) (b : SM) : SM := fun e S => (m e S).st e fun x S1 => match srcAt x S1 with
  | none => .bad
  | some us => forGo x t b (us.length + 1) 0 e S1
theorem sFor {tg iter : Expr} {body : List Stmt} {m : EM Src} {t : Tgt} {b : SM} (hp : PassesOwn (model X.prog X.w) X.A X.env X.xe) (hi : PI X tg iter (tI C W m)) (hg : PG X tg (gOf C.K t)) (hb : PSs X body (tS C W b)) (hc : X.calm = true := by rfl)
    (hs : ∀ x, foldedSetIterable iter X.env x = pure x := by intro _; rfl) : PS X (.For tg iter body [] pos) (tS C W (mFor m t b)) := by
  refine PS_imp (ps_for hp hc hi hg hb hs) fun D σ H ⟨w, env, S, at_, p⟩ => tI_mono (fun J H1 ⟨w0, x, S1, at1, l1, rs, p1⟩ => ?_) (tI_of at_ p)
  cases hu : srcAt x S1 with
  | none => simp only [hu] at p1; exact p1.elim
  | some us0 =>
    simp only [hu] at p1
    refine ⟨fun i n σ H => ∃ w env S, At C w env S σ H ∧ Le w0 w ∧ PsS C W D w (forGo x t b n i env S), ⟨us0.length + 1, w0, env, S1, at1, Le.refl _, p1⟩, ?_⟩
    rintro i n σ H ⟨w, env, S, at_, l, p⟩
    cases n with
    | zero => exact p.elim
    | succ n =>
      unfold forGo at p
      cases hus : srcAt x S with
      | none => simp only [hus] at p; exact p.elim
      | some us =>
        obtain ⟨q1, q2⟩ := rs w S l at_.s us hus
        simp only [hus] at p
        cases hx : us[i]? with
        | none =>
          simp only [hx] at p
          split at p
          · rename_i hl
            subst hl
            exact .inl ⟨by rw [← at_.h]; exact q2, by rw [← at_.h]; exact p.nx' at_.s at_.e⟩
          · exact p.elim
        | some u =>
          obtain ⟨q3, q4⟩ := q1 i u hx
          refine .inr ⟨by rw [← at_.h]; exact q3, fun σ H => ∃ w env S, At C w env S σ H ∧ Le w0 w ∧ PsS C W D w (forGo x t b n (i + 1) env S), fun σ' H' h => ⟨n, Nat.lt_succ_self n, h⟩, fun y H' hy => ?_⟩
          rw [← at_.h] at hy
          obtain ⟨w2, e2, l2, s2, r2⟩ := q4 y H' hy
          simp only [hx] at p
          cases hT : setT t u env with
          | none => simp only [hT] at p; exact p.elim
          | some env' =>
            simp only [hT] at p
            exact gOf_ok e2 (at_.e.le l2) r2 hT fun σ2 a2 _ => ⟨w2, env', S, ⟨e2, a2, s2⟩, loop_of (p.le l2) fun w' e S σ l3 s r q => ⟨w', e, S, ⟨rfl, r, s⟩, (l.trans l2).trans l3, q⟩⟩
/-! ### list comprehensions -/
def wipeE (e : Env) : List Nat → Env
  | [] => e
  | v :: vs => (wipeE e vs).set v none
theorem wipe_rel (a : EnvR C w env σ) : ∀ vs : List Nat, EnvR C w (wipeE env vs) (wipe σ vs)
  | [] => a
  | v :: vs => by unfold wipeE wipe; exact (wipe_rel a vs).set .none v
def Rs.nox {α β : Type} (r : Rs α) (f : α → Sto → Rs β) : Rs β := match r with
  | .ok a S => f a S
  | _ => .bad
def lcGo (x : Src) (t : Tgt) (vs : List Nat) (tt : EM Bool) (te : EM U) (env : Env) : Nat → Nat → List U → Sto → Rs (List U)
  | 0, _, _, _ => .bad
  | n + 1, i, acc, S => match srcAt x S with
    | none => .bad
    | some us => match us[i]? with
      | none => if i = us.length then .ok acc S else .bad
      | some u => match setT t u (wipeE env vs) with
        | none => .bad
        | some e' => (tt e' S).nox fun k S1 => match k with
          | true => (te e' S1).nox fun z S2 => if acc.length < sizeLine then lcGo x t vs tt te env n (i + 1) (acc ++ [z]) S2 else .bad
          | false => lcGo x t vs tt te env n (i + 1) acc S1
/-- a list that was just made, no cell's -/
def mLc (m : EM Src) (t : Tgt) (vs : List Nat) (tt : EM Bool) (te : EM U) : EM (List U) := fun e S => (m e S).bind fun x S1 => match srcAt x S1 with
  | none => .bad
  | some us => lcGo x t vs tt te e (us.length + 1) 0 [] S1
def RL (C : Ct) (w0 w : Wd) (us : List U) (x : V) : Prop := ∃ d vs, x = .ref d ∧ w.H d = some (.lst vs) ∧ Nw w0 d ∧ (∀ i, i < w.n → w.rho i ≠ d) ∧ RVs C w us vs
def tL (C : Ct) (W : WX) (m : EM (List U)) : TE := fun σ H Q => ∃ w env S, At C w env S σ H ∧ Ps C W σ w (m env S) (RL C w) Q
theorem tI_bind {α β : Type} {m : EM Src} {g : Src → Sto → Rs α} {R : Wd → α → β → Prop} {Q : β → Hp → Prop} (a : At C w env S σ H) (p : Ps C W σ w ((m env S).bind g) R Q) :
    tI C W m σ H fun x H1 => ∃ w1 u S1, At C w1 env S1 σ H1 ∧ Le w w1 ∧ RSrc C w1 u x ∧ Ps C W σ w1 (g u S1) R Q :=
  ⟨w, env, S, a, Ps_mono (fun v H' ⟨w1, u, S1, e, l, s, r, p⟩ => ⟨w1, u, S1, by rw [← e]; exact a.go l s, l, r, p⟩) (Ps_bind p)⟩
theorem Ps_nox {α β α' β' : Type} {r : Rs α} {f : α → Sto → Rs β} {R : Wd → α → α' → Prop} {R' : Wd → β → β' → Prop} {Q : β' → Hp → Prop} {W' : WX} {σ' : St} {wb : Wd} (p : Ps C W σ wb (r.nox f) R' Q) :
    Ps C W' σ' w r R (fun x H1 => ∃ w1 u S1, w1.H = H1 ∧ Le w w1 ∧ Sim C w1 S1 ∧ R w1 u x ∧ Ps C W σ wb (f u S1) R' Q) := by
  cases r with
  | ok u S' => exact fun w1 v l s q => ⟨w1, u, S', rfl, l, s, q, p⟩
  | ex c g S' => exact p.elim
  | bad => exact p.elim
/-- the new list stays apart -/
structure Apart (w0 w : Wd) (d : Addr) (vs : List V) : Prop where
  at_ : w.H d = some (.lst vs)
  new : Nw w0 d
  out : ∀ i, i < w.n → w.rho i ≠ d
theorem Apart.le {w0 w w1 : Wd} {d : Addr} {vs : List V} (a : Apart w0 w d vs) (l : Le w w1) : Apart w0 w1 d vs :=
  let ⟨h, r⟩ := l.out d _ a.at_ (fun _ q => nomatch q) a.out
  ⟨h, a.new, r⟩
/-- the list at d written: no cell's -/
theorem Sim.apart {w0 : Wd} {d : Addr} {vs ys : List V} (s : Sim C w S) (sc : Scr C w0) (l : Le w0 w) (a : Apart w0 w d vs) :
    Sim C ⟨w.rho, w.n, L2.upd w.H d (.lst ys)⟩ S ∧ Le w0 ⟨w.rho, w.n, L2.upd w.H d (.lst ys)⟩ ∧ Lf w ⟨w.rho, w.n, L2.upd w.H d (.lst ys)⟩ ∧ Apart w0 ⟨w.rho, w.n, L2.upd w.H d (.lst ys)⟩ d ys := by
  have f : Lf w ⟨w.rho, w.n, L2.upd w.H d (.lst ys)⟩ := ⟨Nat.le_refl _, fun _ _ => rfl, fun b vs' e => by
    show L2.upd w.H d _ b = _
    rw [upd_ne (fun q => by rw [q, a.at_] at e; cases e)]; exact e⟩
  have l2 : Le w0 ⟨w.rho, w.n, L2.upd w.H d (.lst ys)⟩ := ⟨l.n, l.rho, fun b vs' e => f.tup b vs' (l.tup b vs' e), fun b o u e => ?_, fun b o e t r => ?_⟩
  refine ⟨⟨s.len, s.inj, fun i c e => ?_, (KeepT.upd (fun ps q => by rw [a.at_] at q; cases q) (fun f q => by rw [a.at_] at q; cases q)).tabs s.tab, sc.le l2⟩, l2, f, ⟨upd_same, a.new, a.out⟩⟩
  · exact (s.cell i c e).lf f (by show L2.upd w.H d _ (w.rho i) = _; rw [upd_ne (a.out i (s.lt e))])
  · show L2.upd w.H d _ b = _
    rw [upd_ne (fun q => by rw [q] at e; obtain ⟨ps, z⟩ := a.new _ e; cases z)]
    exact l.frz b o u e
  · obtain ⟨h1, h2⟩ := l.out b o e t r
    refine ⟨?_, h2⟩
    show L2.upd w.H d _ b = _
    rw [upd_ne (fun q => by rw [q] at e; obtain ⟨ps, z⟩ := a.new _ e; exact t ps z)]
    exact h1
end
section
variable {X : Cx} {C : Ct} {W : WX} {pos : Pos}
theorem PTs_imp {es : List Expr} {t t' : TT} (h : PTs X es t) (i : ∀ σ H Q, t' σ H Q → t σ H Q) : PTs X es t' := ⟨fun pins s σ H Q I q => h.run pins s σ H Q I (i _ _ _ q)⟩
def mYes : EM Bool := fun _ S => .ok true S
theorem tsNil : PTs X [] (tT C WF mYes) := PTs_imp pts_nil fun σ H Q ⟨w, env, S, a, p⟩ => by
  show Q true H
  rw [← a.h]
  exact p.ok (Le.refl _) a.s rfl
theorem tsOne {c : Expr} {t : EM Bool} (h : PT X c (tT C WF t)) : PTs X [c] (tT C WF t) := pts_one h
theorem wipe_wipe (σ : St) (vs : List Nat) : wipe (wipe σ vs) vs = wipe σ vs := by
  have all : ∀ us : List Nat, (∀ i ∈ us, i ∈ vs) → wipe (wipe σ us) vs = wipe σ vs := by
    intro us
    induction us with
    | nil => intro _; rfl
    | cons u us ih =>
      intro h
      show wipe ((wipe σ us).set u none) vs = _
      rw [wipe_set_in (h u List.mem_cons_self)]
      exact ih fun i hi => h i (List.mem_cons_of_mem _ hi)
  exact all vs fun _ h => h
theorem tLc_of {m : EM Src} {t : Tgt} {vs : List Nat} {tt : EM Bool} {te : EM U} {K : PySem.W.Frag} (hv : ∀ i ∈ slots t, i ∈ vs) {σ : St} {H : Hp} {Q : VK} (h : tL C W (mLc m t vs tt te) σ H Q) : tLc (tI C W m) (gOf K t) (tT C WF tt) (tE C WF te) vs σ H Q := by
  obtain ⟨w00, env, S, at_, p⟩ := h
  refine tI_mono (fun J H1 ⟨w0, x, S1, at1, l1, rs, p1⟩ => ?_) (tI_bind at_ p)
  intro d hd
  rw [← at1.h] at hd
  cases hu : srcAt x S1 with
  | none => simp only [hu] at p1; exact p1.elim
  | some us0 =>
    simp only [hu] at p1
    obtain ⟨s1, l1'⟩ := at1.s.upd (o := .lst []) hd
    have nw0 : Nw w0 d := fun o e => by rw [hd] at e; cases e
    have hd0 : Nw w00 d := fun o q => Classical.byContradiction fun ht => by
      by_cases hr : ∀ i, i < w00.n → w00.rho i ≠ d
      · obtain ⟨z, _⟩ := l1.out d o q (fun ps e => ht ⟨ps, e⟩) hr
        rw [hd] at z; cases z
      · have ⟨i, hi⟩ := Classical.not_forall.mp hr
        have ⟨hi1, hi2⟩ := Classical.not_imp.mp hi
        have e : w0.rho i = d := by rw [l1.rho i hi1]; exact Classical.not_not.mp hi2
        obtain ⟨c, hc⟩ := at1.s.there (i := i) (Nat.lt_of_lt_of_le hi1 l1.n)
        obtain ⟨o', e', _⟩ := (at1.s.cell i c hc).some
        rw [e, hd] at e'; cases e'
    have ap0 : Apart w00 ⟨w0.rho, w0.n, upd w0.H d (.lst [])⟩ d [] := ⟨upd_same, hd0, fun i hi => by
      obtain ⟨c, hc⟩ := at1.s.there (i := i) hi
      obtain ⟨o', e', _⟩ := (at1.s.cell i c hc).some
      exact ne_of_none e' hd⟩
    refine ⟨fun i n H => ∃ w acc vs0 S, w.H = H ∧ EnvR C w env σ ∧ Sim C w S ∧ Le w0 w ∧ Apart w00 w d vs0 ∧ RVs C w acc vs0 ∧ Ps C W σ w0 (lcGo x t vs tt te env n i acc S) (RL C w00) Q,
      ⟨us0.length + 1, _, [], [], S1, by rw [← at1.h], at1.e.le l1', s1, l1', ap0, .nil, p1⟩, ?_⟩
    rintro i n H ⟨w, acc, vs0, S, rfl, ae, sm, l, ap, ra, p⟩
    cases n with
    | zero => exact p.elim
    | succ n =>
      unfold lcGo at p
      cases hus : srcAt x S with
      | none => simp only [hus] at p; exact p.elim
      | some us =>
        obtain ⟨q1, q2⟩ := rs w S l sm us hus
        simp only [hus] at p
        cases hx : us[i]? with
        | none =>
          simp only [hx] at p
          split at p
          · rename_i hl
            subst hl
            exact .inl ⟨q2, p.ok l sm ⟨d, vs0, rfl, ap.at_, ap.new, ap.out, ra⟩⟩
          · exact p.elim
        | some u =>
          obtain ⟨q3, q4⟩ := q1 i u hx
          refine .inr ⟨q3, fun H => ∃ w acc vs0 S, w.H = H ∧ EnvR C w env σ ∧ Sim C w S ∧ Le w0 w ∧ Apart w00 w d vs0 ∧ RVs C w acc vs0 ∧ Ps C W σ w0 (lcGo x t vs tt te env n (i + 1) acc S) (RL C w00) Q, fun H' h => ⟨n, Nat.lt_succ_self n, h⟩, fun y H' hy => ?_⟩
          obtain ⟨w2, rfl, l2, s2, r2⟩ := q4 y H' hy
          simp only [hx] at p
          cases hT : setT t u (wipeE env vs) with
          | none => simp only [hT] at p; exact p.elim
          | some env' =>
            simp only [hT] at p
            refine gOf_ok rfl (wipe_rel (ae.le l2) vs) r2 hT fun σ2 a2 hw => ⟨?_, w2, env', S, ⟨rfl, a2, s2⟩, Ps_mono (fun k H3 ⟨w3, k', S3, e3, l3, s3, r3, p3⟩ => ?_) (Ps_nox (R := RB) p)⟩
            · have z := hw vs hv
              rw [z]
              exact wipe_wipe σ vs
            · cases r3
              subst e3
              cases k with
              | true =>
                rw [if_pos rfl]
                refine ⟨w3, env', S3, ⟨rfl, a2.le l3, s3⟩, Ps_mono (fun z H4 ⟨w4, z', S4, e4, l4, s4, r4, p4⟩ => ?_) (Ps_nox (R := RV C) p3)⟩
                subst e4
                have ap4 := ((ap.le l2).le l3).le l4
                split at p4
                · rename_i hz
                  have ra4 := ((ra.le l2).le l3).le l4
                  refine ⟨vs0, ap4.at_, by rw [← ra4.length]; exact hz, ?_⟩
                  have l04 := ((l.trans l2).trans l3).trans l4
                  obtain ⟨s5, l5, f5, ap5⟩ := Sim.apart (ys := vs0 ++ [z]) s4 at_.s.scr (l1.trans l04) ap4
                  obtain ⟨_, l6, _, _⟩ := Sim.apart (ys := vs0 ++ [z]) s4 at1.s.scr l04 (⟨ap4.at_, nw0, ap4.out⟩ : Apart w0 w4 d vs0)
                  refine ⟨_, acc ++ [z'], vs0 ++ [z], S4, rfl, (((ae.le l2).le l3).le l4).lf f5, s5, l6, ap5, (ra4.append (.cons r4 .nil)).lf f5, ?_⟩
                  exact p4
                · exact p4.elim
              | false =>
                rw [if_neg (by decide)]
                exact ⟨w3, acc, vs0, S3, rfl, (ae.le l2).le l3, s3, (l.trans l2).trans l3, (ap.le l2).le l3, (ra.le l2).le l3, p3⟩
end
end OD
end

section
set_option Elab.async false
set_option linter.all false
set_option autoImplicit false
set_option maxRecDepth 100000
set_option maxHeartbeats 4000000
/-! OD9: enumerate over a tuple -/
namespace PySem
open AutoSeq1 (wpAny_loadPart')
abbrev odIter (t : Addr) : Obj := { cls := .type "tuple_iterator", data := .fields #[.ref t, .int 0 0] }
abbrev odEnum (a : Addr) : Obj := { cls := .type "enumerate", data := .fields #[.none, .bool false, .ref a, rawInt 0, .none, .none] }
theorem od_meets_enum (t : Addr) (items : Array Value) (n : Nat) (dct : Option Addr) (sl : Array (Option Value)) :
    Meets (Builtin.«enumerate.__new__» ⟨[.type "enumerate", .ref t], []⟩)
      (fun _ R s => s.heap.get? t = some { cls := .type "tuple", dict := dct, data := .seq items n, slots := sl } ∧ R (.ok (.ret (.ref (s.heap.push (odIter t)).objs.size))) { s with heap := (s.heap.push (odIter t)).push (odEnum s.heap.objs.size) }) :=
  .of_wp fun prog w A R s h => by
    obtain ⟨hp, g, d, tk, os⟩ := s
    obtain ⟨hl, h⟩ := h
    have hsub := sub_enumerate
    have hT : Heap.IsTuple (Shared.heap ⟨hp, g, d, tk, os⟩) t items := ⟨_, hl, rfl, n, rfl⟩
    wp_walk using wpAny_loadPart' hl
    refine wpAny_stack_any fun st => wpAny_pure ?_
    split
    · rename_i c _ _ _ _ _
      cases (c == Value.type "enumerate") <;> (wp_walk using wpAny_loadPart' hl, wpAny_pyIter_tuple hT; exact ⟨_, rfl, h⟩)
    · wp_walk using wpAny_loadPart' hl, wpAny_pyIter_tuple hT
      exact ⟨_, rfl, h⟩
theorem od_call_enum {prog : Program} {w : World} {A : Around} {E : Value → Shared → Prop} {s : Shared} {t : Addr} {items : Array Value} {Q : Value → Shared → Prop} (hT : s.heap.IsTuple t items)
    (h : ∀ h', IsEnum h' (s.heap.objs.size + 1) s.heap.objs.size 0 .none → h'.IsTupleIter s.heap.objs.size t 0 → (∀ b o, s.heap.get? b = some o → h'.get? b = some o) → Q (.ref (s.heap.objs.size + 1)) { s with heap := h' }) :
    wpAny (model prog w) A (call (.type "enumerate") [.ref t]) Q E s := by
  obtain ⟨⟨c, dct, dt, sl⟩, hl, hc, n, hd⟩ := hT
  replace hc : c = .type "tuple" := hc
  replace hd : dt = .seq items n := hd
  subst hc hd
  have hz : (s.heap.push (odIter t)).objs.size = s.heap.objs.size + 1 := Heap.size_push ..
  have he : IsEnum ((s.heap.push (odIter t)).push (odEnum s.heap.objs.size)) (s.heap.objs.size + 1) s.heap.objs.size 0 .none := by
    have e := Heap.get?_push_size (s.heap.push (odIter t)) (o := odEnum s.heap.objs.size) rfl
    rw [hz] at e
    exact e
  refine callType_new F.called_enumerate (by decide) (F.typeCall_enumerate_1 _) (F.newCall_enumerate_1 _) (fun obj => F.args_object_init_2 obj _) F.entry_enumerate_new (od_meets_enum t items n dct sl) ⟨hl, ?_⟩
  show _ ∧ _
  rw [hz]
  exact ⟨⟨_, he, rfl⟩, h _ he ⟨_, Heap.get?_push_of_some _ (Heap.get?_push_size _ rfl), rfl, rfl⟩ fun b o x => Heap.get?_push_of_some _ (Heap.get?_push_of_some _ x)⟩
end PySem

namespace OD
open PySem L2 PyProof.Rows
/-- the tuple at a by places, in new pairs -/
def ItEnT (K : PySem.W.Frag) (a : Addr) : It :=
  ⟨fun i H => ∃ (xs : List V) (x : V), SqT K H a xs ∧ xs[i]? = some x,
    fun i H v H' => ∃ T x, v = .ref T ∧ H T = none ∧ H' = upd H T (.tup [.int (i : Nat), x]) ∧ ∀ xs, SqT K H a xs → xs[i]? = some x,
    fun i H => ∃ xs : List V, SqT K H a xs ∧ xs.length = i⟩
theorem turn_enT {P : Program} {w : World} {K : PySem.W.Frag} {elts : List Expr} {kk : Nat} {tpos : Pos} (a e it : Addr) :
    Turn P w K (.Tuple elts kk tpos) (ItEnT K a) [e, it] e (fun i h => (∃ old, IsEnum h e it ((i : Nat) : Int) old) ∧ h.IsTupleIter it a i ∧ e ≠ it) where
  mem := by simp
  obj := fun i h st b hb => by
    obtain ⟨⟨old, he⟩, ⟨o, ho, hc, hd⟩, _⟩ := st
    rcases (show b = e ∨ b = it by simpa using hb) with z | z
    · subst z; exact ⟨_, he, fun v q => nomatch q⟩
    · subst z; exact ⟨o, ho, fun v q => by rw [hd] at q; cases q⟩
  keep := fun i h h' st k => ⟨let ⟨old, he⟩ := st.1; ⟨old, k e (by simp) _ he⟩, st.2.1.at fun o q => k it (by simp) o q, st.2.2⟩
  item := by
    intro X hP hw hK hc i pins s σ H E I hf st hg
    subst hP hw hK
    obtain ⟨⟨old, he⟩, hit, hne⟩ := st
    obtain ⟨xs, x, hq, hx⟩ := hg
    obtain ⟨its, rv, p, hz⟩ := I.tuple hq
    obtain ⟨u, hu, ru⟩ := rv.get hx
    have hel : e < s.heap.objs.size := Heap.lt_size he
    have hil : it < s.heap.objs.size := by obtain ⟨_, q, _⟩ := hit; exact Heap.lt_size q
    have pt : s.heap.IsTuple a its.toArray := p
    have hane : a ≠ it := by
      rintro rfl
      obtain ⟨o1, h1, c1, _⟩ := pt
      obtain ⟨o2, h2, c2, _⟩ := hit
      rw [h1] at h2; cases h2; rw [c1] at c2; exact absurd c2 (by decide)
    have haee : a ≠ e := by
      rintro rfl
      obtain ⟨o1, h1, c1, _⟩ := pt
      have h2 : s.heap.get? a = some _ := he
      rw [h1] at h2
      cases h2
      exact absurd (show Value.type "enumerate" = .type "tuple" from c1) (by decide)
    have hlt : i < its.toArray.size := by
      have q := (List.getElem?_eq_some_iff.mp hu).1
      simpa using q
    have D : Draws X.prog X.w X.A.in1 it [it, a] its.toArray.size (fun i v => its.toArray[i]? = some v) (fun i h => h.IsTupleIter it a i ∧ h.IsTuple a its.toArray) := Draws.tuple (by show X.A.in1.handled = none; exact I.ok.hd hc) it a hane its.toArray
    refine wpAny_pyNext_enum_itemD D he ⟨hit, pt⟩ hlt hne (by simp [hne, Ne.symm haee]) fun y h' tk hy ho hst hT hsz hk => ?_
    have ey : y = u := by
      have q : its.toArray[i]? = some u := by simpa using hu
      rw [q] at hy
      exact (Option.some.inj hy).symm
    subst ey
    refine ⟨_, rfl, wpAny_letOwnedTupleGo_enum (s := { s with heap := h', toks := tk + 1 }) ho fun h'' he' sb => ?_⟩
    have hT2 : h''.get? s.heap.objs.size = some { cls := .type "tuple", data := .seq #[.int i tk, y] } := (sb.2 _ (Nat.ne_of_gt hel)).trans hT
    have new : ObjOk X.prog X.w (upd H s.heap.objs.size (.tup [.int (i : Nat), x])) h'' s.heap.objs.size (.tup [.int (i : Nat), x]) := ⟨by show 2 ≤ sizeLine; decide, [.int i tk, y], .cons ⟨_, rfl⟩ (.cons ru .nil), ⟨_, hT2, rfl, _, rfl⟩⟩
    have I1 := I.turnedNew (t' := tk + 1) (h' := h'') (ch := [e, it]) (fun b ob hb q => (sb.2 b (fun z => hb (by simp [z]))).trans (hk b ob (fun z => hb (by simp [z])) (fun z => hb (by simp [z])) q)) hf (Nat.le_refl _) new
    refine ⟨.ref s.heap.objs.size, _, I1, rfl, ⟨_, x, rfl, I.hok.fresh (Nat.le_refl _), rfl, fun ys hy => by rw [I.tuple_inj hy hq]; exact hx⟩, ⟨⟨y, ?_⟩, hst.1.at fun o q => (sb.2 it (Ne.symm hne)).trans q, hne⟩, fun b hb => ?_⟩
    · have e1 : ((i + 1 : Nat) : Int) = (i : Int) + 1 := by omega
      rw [e1]
      exact he'
    · have hb' : b < s.heap.objs.size := by rcases (show b = e ∨ b = it by simpa using hb) with z | z <;> (subst z; assumption)
      rw [upd_ne (Nat.ne_of_lt hb')]
      exact (hf b hb).1
  done := by
    intro X hP hw hK hc i pins s σ H E I hf st hg
    subst hP hw hK
    obtain ⟨⟨old, he⟩, hit, hne⟩ := st
    obtain ⟨xs, hq, hx⟩ := hg
    obtain ⟨its, rv, p, hz⟩ := I.tuple hq
    obtain ⟨f0, f1, f2, f3, f4, f5⟩ := hf it (by simp)
    have hl := rv.length
    have pt : s.heap.IsTuple a its.toArray := p
    have hane : a ≠ it := by
      rintro rfl
      obtain ⟨o1, h1, c1, _⟩ := pt
      obtain ⟨o2, h2, c2, _⟩ := hit
      rw [h1] at h2; cases h2; rw [c1] at c2; exact absurd c2 (by decide)
    have D : Draws X.prog X.w X.A.in1 it [it, a] its.toArray.size (fun i v => its.toArray[i]? = some v) (fun i h => h.IsTupleIter it a i ∧ h.IsTuple a its.toArray) := Draws.tuple (by show X.A.in1.handled = none; exact I.ok.hd hc) it a hane its.toArray
    have en : i = its.toArray.size := by rw [List.size_toArray]; omega
    subst en
    exact wpAny_pyNext_enum_endD D he ⟨hit, pt⟩ fun h' eb => ⟨rfl, I.turned (t' := s.toks) (fun b o hb q => eb b o hb q) f0 f1 f3 f4 f5⟩
  self := fun A i s Q E st h => let ⟨⟨_, he⟩, _⟩ := st; wpAny_pyIter_enum he h
def iEnT (K : PySem.W.Frag) (ta : TA) : TI := fun σ H R => ta σ H fun vs H1 => ∃ a xs, vs = [.ref a] ∧ SqT K H1 a xs ∧ R (ItEnT K a) H1
theorem pi_enT {X : Cx} {e : Expr} {ta : TA} {p pos tpos : Pos} {elts : List Expr} {kk : Nat} (hg : Gl X "enumerate") (hm : X.mg "enumerate" = none) (ha : PA X [e] ta) (hs : starEach [e] X.env = [(false, eval e X.env)] := by rfl) :
    PI X (.Tuple elts kk tpos) (.Call (.Name "enumerate" p) [e] [] pos) (iEnT X.K ta) := by
  refine ⟨fun pins s σ H R I h => Call_ (ld_blt I hg hm boot_enumerate (PyProof.Rows.callWith_type1 (thn (ha.run pos pins s σ H _ I h) fun us s1 ⟨vs, H1, I1, r1, a, xs, ex, hq, q⟩ => ?_) hs rfl))⟩
  subst ex
  obtain ⟨u, rfl, ru⟩ := vals1 r1
  cases ru
  obtain ⟨its, rv, p', hz⟩ := I1.tuple hq
  refine od_call_enum (show s1.heap.IsTuple a its.toArray from p') fun h' he hit hk => wpAny_pyIter_enum he ?_
  have I2 : Inv X pins σ H1 { s1 with heap := h' } := I1.kept (t' := s1.toks) hk
  refine ⟨s1.heap.objs.size + 1, [s1.heap.objs.size + 1, s1.heap.objs.size], _, _, H1, rfl, I2, turn_enT a _ s1.heap.objs.size, ⟨⟨.none, he⟩, hit, Nat.succ_ne_self _⟩, fun b hb => ?_, q⟩
  have hle : s1.heap.objs.size ≤ b := by
    rcases (show b = s1.heap.objs.size + 1 ∨ b = s1.heap.objs.size by simpa using hb) with z | z
    · rw [z]; exact Nat.le_add_right _ _
    · rw [z]; exact Nat.le_refl _
  exact I1.fpOk hle (I1.hok.fresh hle)
section
variable {X : Cx} {C : Ct} {W : WX} {pos : Pos}
def enumU (i : Nat) : List U → List U
  | [] => []
  | u :: us => .tup [.int (i : Nat), u] :: enumU (i + 1) us
theorem enumU_len : ∀ (us : List U) (i : Nat), (enumU i us).length = us.length
  | [], _ => rfl
  | _ :: us, i => by simp [enumU, enumU_len us (i + 1)]
theorem enumU_get : ∀ (us : List U) (i j : Nat) (x : U), (enumU i us)[j]? = some x → ∃ u, us[j]? = some u ∧ x = .tup [.int ((i + j : Nat) : Int), u]
  | [], _, _, _, h => by simp [enumU] at h
  | u :: us, i, 0, x, h => by simp [enumU] at h; exact ⟨u, rfl, h.symm⟩
  | u :: us, i, j + 1, x, h => by
    simp only [enumU, List.getElem?_cons_succ] at h
    obtain ⟨v, h1, h2⟩ := enumU_get us (i + 1) j x h
    refine ⟨v, by simpa using h1, ?_⟩
    rw [h2]
    congr 4
    omega
theorem ent_src {w : Wd} {K : PySem.W.Frag} {us : List U} {v : V} (r : RV C w (.tup us) v) : ∃ a, v = .ref a ∧ RSrc C w (.its (enumU 0 us)) (ItEnT K a) := by
  cases r with
  | tup e r =>
    refine ⟨_, rfl, fun w' S' l s us' hu => ?_⟩
    cases hu
    have q : SqT K w'.H _ _ := SqT.of (l.tup _ _ e)
    have r1 := r.le l
    refine ⟨fun i u hi => ?_, ⟨_, q, by rw [enumU_len, r1.length]⟩⟩
    obtain ⟨u0, hi0, rfl⟩ := enumU_get us 0 i u hi
    obtain ⟨x, hx, rx⟩ := r1.get hi0
    refine ⟨⟨_, x, q, hx⟩, fun y H' ⟨T, x', e1, e2, e3, hy⟩ => ?_⟩
    have e4 := hy _ q
    rw [hx] at e4
    cases e4
    subst e1 e3
    obtain ⟨s2, l2⟩ := s.upd (o := .tup [.int (i : Nat), x]) e2
    refine ⟨_, rfl, l2, s2, .tup upd_same (.cons ?_ (.cons (rx.le l2) .nil))⟩
    have e5 : ((0 + i : Nat) : Int) = (i : Nat) := by omega
    rw [e5]
    exact .int _
def msEnT (ms : EM (List U)) : EM Src := fun e S => (ms e S).bind fun us S1 => match us with
  | [.tup xs] => .ok (.its (enumU 0 xs)) S1
  | _ => .bad
theorem iEnTup {e : Expr} {ms : EM (List U)} {p tpos : Pos} {elts : List Expr} {kk : Nat} (hm : X.mg "enumerate" = none) (ha : PA X [e] (tA C W ms)) (hg : Gl X "enumerate" := by rfl) (hs : starEach [e] X.env = [(false, eval e X.env)] := by rfl) :
    PI X (.Tuple elts kk tpos) (.Call (.Name "enumerate" p) [e] [] pos) (tI C W (msEnT ms)) :=
  PI_imp (pi_enT hg hm ha hs) fun σ H R ⟨w, env, S, at_, p⟩ => tA_mono (fun xs H1 ⟨w1, us, S1, at1, l1, r1, p1⟩ => by
    split at p1
    · obtain ⟨v, rfl, r⟩ := r1.one
      obtain ⟨a, rfl, rs⟩ := ent_src (K := X.K) r
      cases r with
      | tup e1 _ => exact ⟨a, _, rfl, by rw [← at1.h]; exact SqT.of e1, by rw [← at1.h]; exact p1.ok (Le.refl _) at1.s rs⟩
    · exact p1.elim) (tA_of at_ p)
end
end OD
end

section
set_option Elab.async false
set_option linter.all false
set_option autoImplicit false
set_option maxRecDepth 100000
set_option maxHeartbeats 4000000
/-! OD10: new lists, defs, raise, try, isinstance, lambdas -/
namespace OD
open PySem L2
section
variable {X : Cx} {C : Ct} {W : WX} {pos : Pos} {w w1 : Wd} {S : Sto} {σ : St} {H : Hp} {env : Env}
/-! ### lists just made -/
theorem eLc {elt tg iter : Expr} {ifs : List Expr} {scope : Scope} {own : List (Str × Nat)} {m : EM Src} {t : Tgt} {tt : EM Bool} {te : EM U} (hN : X.N.Nodup) (hi : PI X tg iter (tI C W m)) (ok : BlkOk X.N X.env.scope scope own)
    (hg : ∀ (s : Shared) (H : Hp) (D : Addr) (cl : List (Str × Addr)) (fp : List Addr), PG (X.blk s H scope (compEnvC scope cl D X.env) fp) tg (gOf C.K t)) (ht : ∀ (s : Shared) (H : Hp) (D : Addr) (cl : List (Str × Addr)) (fp : List Addr), PTs (X.blk s H scope (compEnvC scope cl D X.env) fp) ifs (tT C WF tt))
    (he : ∀ (s : Shared) (H : Hp) (D : Addr) (cl : List (Str × Addr)) (fp : List Addr), PE (X.blk s H scope (compEnvC scope cl D X.env) fp) elt (tE C WF te)) (hv : ∀ i ∈ slots t, i ∈ own.map (·.2) := by decide) (hc : X.calm = true := by rfl) (hs : ∀ x, foldedSetIterable iter X.env x = pure x := by intro _; rfl) :
    PE X (.ListComp elt [⟨tg, iter, ifs, 0⟩] scope pos) (tL C W (mLc m t (own.map (·.2)) tt te)) :=
  PE_imp (pe_lc hc hN hi ok hg ht he hs) fun σ H Q h => tLc_of hv h
def mNew (m : EM (List U)) : EM U := fun e S => (m e S).bind fun us S1 => .ok (.ref S1.length) (S1 ++ [.lst us])
theorem tL_new {m : EM (List U)} {Q : VK} (h : tE C W (mNew m) σ H Q) : tL C W m σ H Q := by
  obtain ⟨w, env, S, at_, p⟩ := h
  refine ⟨w, env, S, at_, ?_⟩
  unfold mNew at p
  cases e : m env S with
  | ok us S1 =>
    rw [e] at p
    intro w' x l s r
    obtain ⟨d, vs, rfl, hd, nw, hr, rs⟩ := r
    obtain ⟨s2, l2, _⟩ := s.adopt (c := .lst us) at_.s.scr l hd nw (fun _ q => nomatch q) hr fun w2 _ h2 e2 => ⟨vs, by rw [e2]; exact hd, h2 _ _ rs⟩
    have e0 : V.ref d = V.ref ((fun i => if i = w'.n then d else w'.rho i) S1.length) := by simp [s.len]
    refine p ⟨fun i => if i = w'.n then d else w'.rho i, w'.n + 1, w'.H⟩ (V.ref d) l2 s2 ?_
    rw [e0]
    exact .ref (by show S1.length < w'.n + 1; rw [s.len]; exact Nat.lt_succ_self _)
  | ex c f S1 => rw [e] at p; exact p
  | bad => rw [e] at p; exact p
theorem eNew {e : Expr} {m : EM (List U)} (h : PE X e (tL C W m)) : PE X e (tE C W (mNew m)) := PE_imp h fun σ H Q t => tL_new t
/-- x = [..] on one line -/
theorem sSetLc {i : Nat} {y : Str} {py : Pos} {elt tg iter : Expr} {ifs : List Expr} {scope : Scope} {own : List (Str × Nat)} {spos : Pos} {m : EM Src} {t : Tgt} {tt : EM Bool} {te : EM U} (hN : X.N.Nodup) (hi : PI X tg iter (tI C W m)) (ok : BlkOk X.N X.env.scope scope own)
    (hg : ∀ (s : Shared) (H : Hp) (D : Addr) (cl : List (Str × Addr)) (fp : List Addr), PG (X.blk s H scope (compEnvC scope cl D X.env) fp) tg (gOf C.K t)) (ht : ∀ (s : Shared) (H : Hp) (D : Addr) (cl : List (Str × Addr)) (fp : List Addr), PTs (X.blk s H scope (compEnvC scope cl D X.env) fp) ifs (tT C WF tt))
    (he : ∀ (s : Shared) (H : Hp) (D : Addr) (cl : List (Str × Addr)) (fp : List Addr), PE (X.blk s H scope (compEnvC scope cl D X.env) fp) elt (tE C WF te)) (hsw : swapsWith (.ListComp elt [⟨tg, iter, ifs, 0⟩] scope pos) (some (.Name y py)) spos.line X.env = pure true)
    (hy : X.N[i]? = some y := by rfl) (hyl : X.env.scope.names.lookup y = some .local := by rfl)
    (hv : ∀ i ∈ slots t, i ∈ own.map (·.2) := by decide) (hc : X.calm = true := by rfl) (hs : ∀ x, foldedSetIterable iter X.env x = pure x := by intro _; rfl) :
    PS X (.Assign [.Name y py] (.ListComp elt [⟨tg, iter, ifs, 0⟩] scope pos) spos) (tS C W (mAsg (.nm i) (mNew (mLc m t (own.map (·.2)) tt te)))) :=
  PS_imp (ps_setLc hc hN hy hyl hsw hi ok hg ht he hs) fun D σ H ⟨w, env, S, at_, p⟩ => tLc_of (W := W) hv (tL_new (tE_mono (fun x H1 ⟨w1, u, S1, at1, l1, r1, p1⟩ => by
    show D.nx (σ.set i (some x)) H1
    rw [← at1.h]
    exact p1.nx' at1.s (at1.e.set (.some r1) i)) (tE_st at_ p)))
/-- a built-in called with a list just made -/
def rFL (C : Ct) (f : List U → Sto → Option (U × Sto)) : List V → Hp → VK → Prop := fun xs H Q => ∃ w us S d vs, w.H = H ∧ Sim C w S ∧ xs = [.ref d] ∧ H d = some (.lst vs) ∧ RVs C w us vs ∧ PsO C w (f us S) Q
def mBL (f : List U → Sto → Option (U × Sto)) (m : EM (List U)) : EM U := fun e S => (m e S).bind fun us S1 => lift (f us S1)
theorem tL_of {α β : Type} {m : EM (List U)} {g : List U → Sto → Rs α} {R : Wd → α → β → Prop} {Q : β → Hp → Prop} (a : At C w env S σ H) (p : Ps C W σ w ((m env S).bind g) R Q) :
    tL C W m σ H fun x H1 => ∃ w1 u S1, At C w1 env S1 σ H1 ∧ Le w w1 ∧ RL C w w1 u x ∧ Ps C W σ w1 (g u S1) R Q :=
  ⟨w, env, S, a, Ps_mono (fun v H' ⟨w1, u, S1, e, l, s, r, p⟩ => ⟨w1, u, S1, by rw [← e]; exact a.go l s, l, r, p⟩) (Ps_bind p)⟩
theorem tL_mono {m : EM (List U)} {Q Q' : VK} (h : ∀ v H', Q v H' → Q' v H') (t : tL C W m σ H Q) : tL C W m σ H Q' := by
  obtain ⟨w, env, S, a, p⟩ := t
  exact ⟨w, env, S, a, Ps_mono h p⟩
theorem tBL_of {f : List U → Sto → Option (U × Sto)} {m : EM (List U)} {Q : VK} (t : tE C W (mBL f m) σ H Q) : tCB (rFL C f) (tCons (tL C W m) tNil) σ H Q := by
  obtain ⟨w, env, S, at_, p⟩ := t
  refine tL_mono (fun x H1 ⟨w1, us, S1, at1, l1, ⟨d, vs, ex, hd, nw, hr, rs⟩, p1⟩ => ?_) (tL_of at_ p)
  subst ex
  exact ⟨w1, us, S1, d, vs, at1.h, at1.s, rfl, by rw [← at1.h]; exact hd, rs, PsO_of p1⟩
theorem eBL {id : String} {f : List U → Sto → Option (U × Sto)} {x : Str} {p : Pos} {e : Expr} {m : EM (List U)} (hc : CallR X (.builtin id) (rFL C f)) (hm : X.mg x = none) (ha : PE X e (tL C W m)) (hg : Gl X x := by rfl) (hv : bootBuiltins x = some (.builtin id) := by decide +kernel)
    (hn : x ≠ "__name__" := by decide) (hdb : (x == ("__debug__" : Str)) = false := by decide)
    (he : starEach [e] X.env = (false, eval e X.env) :: starEach [] X.env := by rfl) (hpl : (backTo pos (starEach [] X.env)).any (·.1) = false := by rfl) : PE X (.Call (.Name x p) [e] [] pos) (tE C W (mBL f m)) :=
  PE_imp (pe_callB hc hg hm hv (pa_cons ha pa_nil he) hn hdb he hpl) fun _ _ _ t => tBL_of t
theorem eTyL {T : String} {f : List U → Sto → Option (U × Sto)} {x : Str} {p : Pos} {e : Expr} {m : EM (List U)} (hc : CallR X (.type T) (rFL C f)) (hm : X.mg x = none) (ha : PE X e (tL C W m)) (hg : Gl X x := by rfl) (hv : bootBuiltins x = some (.type T) := by decide +kernel)
    (hn : x ≠ "__name__" := by decide) (hdb : (x == ("__debug__" : Str)) = false := by decide)
    (he : starEach [e] X.env = (false, eval e X.env) :: starEach [] X.env := by rfl) (hpl : (backTo pos (starEach [] X.env)).any (·.1) = false := by rfl) : PE X (.Call (.Name x p) [e] [] pos) (tE C W (mBL f m)) :=
  PE_imp (pe_callTy hc hg hm hv (pa_cons ha pa_nil he) hn hdb he hpl) fun _ _ _ t => tBL_of t
def boolsOf : List U → Option (List Bool)
  | [] => some []
  | .bl b :: r => (boolsOf r).map (b :: ·)
  | _ => none
theorem boolsOf_ok : ∀ {us : List U} {vs : List V} {bs : List Bool}, RVs C w us vs → boolsOf us = some bs → vs = bs.map V.bl
  | _, _, _, .nil, h => by simp only [boolsOf] at h; cases h; rfl
  | _, _, _, .cons (u := u) (us := us) r t, h => by
    cases r <;> simp only [boolsOf] at h <;> try (cases h; done)
    cases q : boolsOf us with
    | none => rw [q] at h; cases h
    | some ms => rw [q] at h; cases h; rw [boolsOf_ok t q]; rfl
def fAll (us : List U) (S : Sto) : Option (U × Sto) := match boolsOf us with
  | some bs => some (.bl (bs.all id), S)
  | none => none
def fAny (us : List U) (S : Sto) : Option (U × Sto) := match boolsOf us with
  | some bs => some (.bl (bs.any id), S)
  | none => none
theorem cAll (hc : X.calm = true := by rfl) : CallR X (.builtin "all") (rFL C fAll) := by
  intro pins s σ H xs us Q I rv ⟨w, zs, S, d, vs, e, sm, ex, hd, rz, p⟩
  subst e ex
  unfold fAll at p
  split at p
  · rename_i bs hb
    have ev := boolsOf_ok rz hb
    subst ev
    exact cr_all hc pins s σ _ _ us Q I rv ⟨d, bs, rfl, SqL.of hd, p.pure rfl rfl sm (.bl _)⟩
  · exact p.elim
theorem cAny (hc : X.calm = true := by rfl) : CallR X (.builtin "any") (rFL C fAny) := by
  intro pins s σ H xs us Q I rv ⟨w, zs, S, d, vs, e, sm, ex, hd, rz, p⟩
  subst e ex
  unfold fAny at p
  split at p
  · rename_i bs hb
    have ev := boolsOf_ok rz hb
    subst ev
    exact cr_any hc pins s σ _ _ us Q I rv ⟨d, bs, rfl, SqL.of hd, p.pure rfl rfl sm (.bl _)⟩
  · exact p.elim
def fSumL (us : List U) (S : Sto) : Option (U × Sto) := match intsOf us with
  | some ns => some (.int ns.sum, S)
  | none => none
theorem cSumL (hc : X.calm = true := by rfl) : CallR X (.builtin "sum") (rFL C fSumL) := by
  intro pins s σ H xs us Q I rv ⟨w, zs, S, d, vs, e, sm, ex, hd, rz, p⟩
  subst e ex
  unfold fSumL at p
  split at p
  · rename_i bs hb
    have ev := intsOf_ok rz hb
    subst ev
    exact cr_sum hc pins s σ _ _ us Q I rv ⟨d, bs, rfl, SqL.of hd, p.pure rfl rfl sm (.int _)⟩
  · exact p.elim
def fTupL (us : List U) (S : Sto) : Option (U × Sto) := some (.tup us, S)
theorem cTupL : CallR X (.type "tuple") (rFL C fTupL) := by
  intro pins s σ H xs us Q I rv ⟨w, zs, S, d, vs, e, sm, ex, hd, rz, p⟩
  subst e ex
  refine call_tuple_of pins s σ _ _ us Q I rv ⟨d, vs, rfl, .inl ⟨SqL.of hd, fun l hl => ?_⟩⟩
  obtain ⟨s2, l2⟩ := sm.upd (o := .tup vs) hl
  exact p.go rfl l2 s2 (.tup upd_same (rz.le l2))
/-- xs.extend([..]) -/
def mExt (o : EM U) (m : EM (List U)) : EM U := fun e S => (o e S).bind fun u S1 => if isTy 0 u S1 then (m e S1).bind fun us S2 => match u with
  | .ref j => match S2[j]? with
    | some (.lst xs) => if xs.length + us.length ≤ sizeLine then .ok .non (S2.set j (.lst (xs ++ us))) else .bad
    | _ => .bad
  | _ => .bad else .bad
theorem eExtL {o e : Expr} {apos cpos : Pos} {mo : EM U} {m : EM (List U)} (ho : PE X o (tE C W mo)) (ha : PE X e (tL C W m))
    (hbase : attributeBase o "extend" X.env (eval o X.env) = eval o X.env := by rfl)
    (hfew : ((backTo cpos (starEach [e] X.env)).all (fun x => !x.1) && (backToKw cpos (keywordEach [] X.env)).all (fun x => x.1.isSome) && decide (([e] : List Expr).length + ([] : List Keyword).length + (if ([] : List Keyword).isEmpty then 0 else 1) < 30)) = true := by rfl)
    (hline : (apos.endLine == cpos.line) = true := by rfl) (hs : starEach [e] X.env = (false, eval e X.env) :: starEach [] X.env := by rfl) (hplain : (backTo cpos (starEach [] X.env)).any (·.1) = false := by rfl) :
    PE X (.Call (.Attribute o "extend" apos) [e] [] cpos) (tE C W (mExt mo m)) :=
  PE_imp (pe_bm PySem.F.plainAttrs_list PySem.F.slot_list_extend PySem.F.type_list_extend mt_extend ho (pa_cons ha pa_nil hs) hbase hfew hline hs hplain) fun σ H Q ⟨w, env, S, at_, p⟩ => tE_mono (fun x H1 ⟨w1, u, S1, at1, l1, r1, p1⟩ => by
    split at p1
    · rename_i hi
      refine ⟨by rw [← at1.h]; exact isTy_ok at1.s r1 hi, tL_mono (fun y H2 ⟨w2, us, S2, at2, l2, ⟨d, vs, ey, hd, nw, hr, rs⟩, p2⟩ => ?_) (tL_of at1 p1)⟩
      subst ey
      cases u with
      | ref j =>
        cases e1 : S2[j]? with
        | none => simp only [e1] at p2; exact p2.elim
        | some cl =>
          cases cl with
          | lst xs =>
            simp only [e1] at p2
            split at p2
            · rename_i hz
              obtain ⟨ws, e2, r2⟩ := at2.s.cell _ _ e1
              have r1' := r1.le l2
              cases r1'
              rename_i hj
              obtain ⟨s3, l3⟩ := at2.s.put (o := .lst (ws ++ vs)) (c := .lst (xs ++ us)) e1 rfl fun w' l e => ⟨_, by rw [e]; exact upd_same, (r2.append rs).le l⟩
              refine ⟨_, d, ws, vs, rfl, rfl, by rw [← at2.h]; exact e2, by rw [← at2.h]; exact hd, by rw [← r2.length, ← rs.length]; exact hz, ?_⟩
              rw [← at2.h]
              exact p2.ok l3 s3 .non
            · exact p2.elim
          | _ => simp only [e1] at p2; exact p2.elim
      | _ => exact p2.elim
    · exact p1.elim) (tE_of at_ p)
end
/-! ### a def by its body -/
def fnD (n : Nat) (m : SM) : FM := fun us S => match m (us.map some ++ List.replicate (n - us.length) none) S with
  | .nx _ S' => .ok .non S'
  | .rt u S' => .ok u S'
  | .ex c f _ S' => .ex c f S'
  | _ => .bad
section
variable {P : Program} {W0 : World} {mg : Str → Option Value} {base : Heap} {C : Ct}
/-- where a def's body runs -/
abbrev cxD (P : Program) (W0 : World) (mg : Str → Option Value) (base : Heap) (C : Ct) (N : List Str) (qual : Str) (st : Stmt) (i : Nat) (cdv : Value) (A : Around) (outer : List PySem.Env) (s : Shared) (H : Hp) (E : XK) : Cx :=
  cxOf (L2.CX P W0) P W0 C.K mg base N qual (defScope st) (C.adr i) cdv A outer s H E
theorem fi_of {x qual : Str} {st : Stmt} {fd : FuncData} {N ps : List Str} {i k : Nat} {m : SM} (F : Fun C.K x qual st (C.adr i) fd) (Sc : FnScope N ps (defScope st)) (b : Binds C.K fd ps [])
    (hbody : ∀ (cdv : Value) (A : Around) (outer : List PySem.Env) (s : Shared) (H : Hp) (E : XK), PySem.W.codeIn C.K cdv qual = true → Room k (cxD P W0 mg base C N qual st i cdv A outer s H E).A → Takes (cxD P W0 mg base C N qual st i cdv A outer s H E) (fun cls d _ H' => E cls d H') →
      PassesOwn (model P W0) (cxD P W0 mg base C N qual st i cdv A outer s H E).A (cxD P W0 mg base C N qual st i cdv A outer s H E).env (cxD P W0 mg base C N qual st i cdv A outer s H E).xe →
      PSs (cxD P W0 mg base C N qual st i cdv A outer s H E) (defBody st) (tS C (fun cls d _ H' => E cls d H') m)) :
    Fi P W0 mg base C (k + 1) i ps.length (fnD N.length m) := by
  obtain ⟨oc, od, kV, doc, pm, an, cdv, ct, osl, rfl, lk, hcd⟩ := F.ex
  refine ⟨⟨_, ps, ?_, b⟩, F.kp⟩
  refine fn_of lk hcd Sc (fun vs H Q E ⟨w, us, S, _, _, r, l, _⟩ => by rw [← r.length]; exact l) fun A outer s H vs Q E hr ⟨w, us, S, hH, sm, r, l, p⟩ => ?_
  refine ⟨_, hbody cdv A outer s H E hcd hr (takes_of rfl rfl rfl rfl) (passes_of rfl), w, us.map some ++ List.replicate (N.length - us.length) none, S, ⟨hH, ?_, sm⟩, ?_⟩
  · show EnvR C w _ (vs.map some ++ List.replicate (N.length - vs.length) none)
    rw [r.length]
    exact (EnvR.args r).append (EnvR.blank _)
  · unfold fnD at p
    cases e : m (us.map some ++ List.replicate (N.length - us.length) none) S with
    | nx e' S' => rw [e] at p; exact fun w' σ l s _ => p w' .non l s .non
    | rt u S' => rw [e] at p; exact p
    | ex c f e' S' => rw [e] at p; exact fun w' σ d l s _ x => p w' d l s x
    | bk e' S' => rw [e] at p; exact p.elim
    | ct e' S' => rw [e] at p; exact p.elim
    | bad => rw [e] at p; exact p.elim
end
/-! ### raise X() -/
section
variable {X : Cx} {C : Ct} {W : WX} {pos : Pos}
theorem pmk_own0 {D : Addr} {bmB : List Value} {B newId initId : String} {x : Str} {p : Pos} (F : ExcBaseFacts B newId initId bmB) (q : PySem.W.excIn X.K D bmB newId = true) (gC : X.mg x = some (.ref D))
    (kC : PySem.W.keepIn X.K (.ref D) = true) (r : Raises X (.ref D)) (hg : Gl X x := by rfl) (hdb : (x == ("__debug__" : Str)) = false := by decide) : PMk X (.Call (.Name x p) [] [] pos) (fun _ H Q => Q (.ref D) none H) := fun pins s σ H Q I h => by
  have go : wpAny (model X.prog X.w) X.A (call (.ref D) []) (MkP X pins σ Q) X.xe s := by
    obtain ⟨bm, N, nm, qn, bs, hdct, sn, sub, ab, col, dd, k0, k1, k2, k3, k5, mN, hC, hN, hni, T⟩ := exc_obj I.kIn q
    exact wpAny_call_exc_subT F T hC hN hni (fun h' e hm => mk_of I hm r h (I.hok.gone hm.new)) (by show 0 ≤ sizeLine; exact Nat.zero_le _)
  exact wpAny_Call_Name_kw (ld_glob I hg gC (PySem.W.callWith_K0 I.kIn kC go) hdb)
/-- what an error class without fields must show -/
structure ExcI (C : Ct) (c : Nat) : Prop where
  q : PySem.W.excIn C.K (C.adr c) [.type "ValueError", .type "Exception", .type "BaseException", .type "object"] "ValueError.__new__" = true
  k : PySem.W.keepIn C.K (.ref (C.adr c)) = true
  b : PySem.W.subIn C.K (.ref (C.adr c)) (.type "BaseException") = some true
  t : PySem.W.typeIn C.K (.ref (C.adr c)) = some (.type "type")
def mRaise0 (c : Nat) : SM := fun e S => .ex c none e S
theorem sRaise0 {c : Nat} {x : Str} {p pos' : Pos} (E : ExcI C c) (tk : Takes X W) (gC : X.mg x = some (.ref (C.adr c))) (hc : X.calm = true := by rfl) (hK : X.K = C.K := by rfl) (hg : Gl X x := by rfl) (hdb : (x == ("__debug__" : Str)) = false := by decide) :
    PS X (.Raise (some (.Call (.Name x p) [] [] pos')) none pos) (tS C W (mRaise0 c)) :=
  PS_imp (ps_raise hc tk (pmk_own0 PySem.F.excBase_ValueError (by rw [hK]; exact E.q) gC (by rw [hK]; exact E.k) (raises_own (by rw [hK]; exact E.b) (by rw [hK]; exact E.t)) hg hdb)) fun D σ H ⟨w, env, S, at_, p⟩ => by
    show W (.ref (C.adr c)) none σ H
    rw [← at_.h]
    exact p w σ none (Le.refl _) at_.s at_.e trivial
/-! ### try: .. except X as n: .. -/
def mTry (ctc : Nat → Option Bool) (b : SM) (sd : Nat → Option (Nat × U) → SM) : SM := fun e S => match b e S with
  | .ex c f e' S' => match ctc c with
    | some true => sd c f e' S'
    | some false => .ex c f e' S'
    | none => .bad
  | o => o
theorem sTry {x n : Str} {cv : Value} {i : Nat} {body suite : List Stmt} {b₀ : Stmt} {np pos' : Pos} {b : SM} {ctc : Nat → Option Bool} {sd : Nat → Option (Nat × U) → SM} {ts : Addr → Value → Option Addr → TS}
    (hN : X.N.Nodup) (hc : Names X x cv) (tk : Takes X W)
    (hb : ∀ (W' : WX) (pn : List (Addr × Obj)) (xe : Value → Shared → Prop), Takes (X.tr pn xe) W' → PassesOwn (model X.prog X.w) X.A X.env xe → PSs (X.tr pn xe) body (tS C W' b))
    (hsu : ∀ (a : Addr) (oe : Obj) (cls : Value) (d : Option Addr) (pn : List (Addr × Obj)), Zc cls d oe → (∃ vs, oe.data = .fields vs) → PSs (X.suite a ((a, oe) :: pn)) (b₀ :: suite) (ts a cls d))
    (hcat : ∀ c k, ctc c = some k → PySem.W.exmOne X.K (.ref (C.adr c)) cv = some k)
    (himp : ∀ (w : Wd) (env : Env) (S : Sto) (σ : St) (a : Addr) (c : Nat) (f : Option (Nat × U)) (d : Option Addr) (D : Ends), EnvR C w env σ → Sim C w S → ExR C w f d → w.H a = none → ctc c = some true → PsS C W D w (sd c f env S) →
      ts a (.ref (C.adr c)) d { nx := fun σ' H' => D.nx (σ'.set i none) H', rt := D.rt, bk := fun σ' H' => D.bk (σ'.set i none) H', ct := fun σ' H' => D.ct (σ'.set i none) H' } (σ.set i (some (.ref a))) w.H)
    (hs : X.stack = X.env :: X.outer := by rfl) (hf : X.env.frame = some X.env.locals := by rfl) (hi : X.N[i]? = some n := by rfl) (hln : X.env.kindOf n = some .local := by rfl) :
    PS X (.Try body [.ExceptHandler (some (.Name x np)) (some n) (b₀ :: suite) pos'] [] [] pos) (tS C W (mTry ctc b sd)) :=
  PS_imp (ps_try_as hs hf hN hi hln hc tk (fun W' pn xe t po => hb W' pn xe t po) hsu) fun D σ H ⟨w, env, S, at_, p⟩ => ⟨w, env, S, at_, by
    unfold mTry at p
    cases e : b env S with
    | ex c f e' S' =>
      rw [e] at p
      simp only at p
      intro w' σ' d l s ae xr
      cases hk : ctc c with
      | none => simp only [hk] at p; exact p.elim
      | some k =>
        simp only [hk] at p
        refine ⟨k, hcat c k hk, fun ht a ha => ?_, fun hf => ?_⟩
        · subst ht
          exact himp w' e' S' σ' a c f d D ae s xr ha hk (p.le l)
        · subst hf
          exact p w' σ' d l s ae xr
    | nx e' S' => rw [e] at p; exact p
    | rt u S' => rw [e] at p; exact p
    | bk e' S' => rw [e] at p; exact p
    | ct e' S' => rw [e] at p; exact p
    | bad => rw [e] at p; exact p⟩
/-! ### isinstance -/
/-- what an own class must show, to be asked -/
structure InsI (C : Ct) (c : Nat) : Prop where
  cl : Cls C.K (C.adr c)
  ha : PySem.W.findIn C.K (.ref (C.adr c)) "__class__" = some (some (.builtin "object.__class__"))
  hn : PySem.W.specialIn C.K (.builtin "object.__class__") "__get__" = some (some (.builtin "getset_descriptor.__get__"))
  ht : PySem.W.takesIn C.K (.builtin "object.__class__") = some true
  hm : PySem.W.mroIn C.K (C.adr c) (.type "object") = some true
inductive Cl where
  | b (n : String) | o (c : Nat)
def clV (C : Ct) : Cl → V
  | .b n => .ty n
  | .o c => .ref (C.adr c)
def clU (C : Ct) : Cl → Value
  | .b n => .type n
  | .o c => .ref (C.adr c)
/-- the class of a value -/
def tyU (u : U) (S : Sto) : Option Cl := match u with
  | .non => some (.b "NoneType")
  | .bl _ => some (.b "bool")
  | .int _ => some (.b "int")
  | .str _ => some (.b "str")
  | .tup _ => some (.b "tuple")
  | .ref j => match S[j]? with
    | some (.lst _) => some (.b "list")
    | some (.rom _) => some (.b "list")
    | some (.dic _) => some (.b "dict")
    | some (.dit _) => some (.b "dict")
    | some (.ins c _) => some (.o c)
    | _ => none
  | _ => none
theorem tyU_ok {w : Wd} {S : Sto} {u : U} {v : V} {t : Cl} (sm : Sim C w S) (r : RV C w u v) (h : tyU u S = some t) (hi : ∀ c, t = .o c → InsI C c) : TyX C.K w.H v (clU C t) := by
  unfold tyU at h
  split at h
  · cases h; cases r; exact .base .non
  · cases h; cases r; exact .base (.bl _)
  · cases h; cases r; exact .base (.int _)
  · cases h; cases r; exact .base (.str _)
  · cases h; cases r with
    | tup e _ => exact .base (.tup e)
  · rename_i j
    split at h
    · rename_i e1
      cases h
      obtain ⟨vs, e2, _⟩ := sm.cell _ _ e1
      cases r
      exact .base (.lst e2)
    · rename_i e1
      cases h
      obtain ⟨o, vs, e2, _⟩ := sm.cell _ _ e1
      cases r
      exact .base (.frz e2)
    · rename_i e1
      cases h
      obtain ⟨vs, e2, _⟩ := sm.cell _ _ e1
      cases r
      exact .base (.dK e2)
    · rename_i e1
      cases h
      obtain ⟨vs, e2, _⟩ := sm.cell _ _ e1
      cases r
      exact .base (.dT e2)
    · rename_i c fs e1
      cases h
      obtain ⟨dx, vs, e2, _⟩ := sm.cell _ _ e1
      cases r
      obtain ⟨h1, h2, h3, h4, h5⟩ := hi c rfl
      exact .base (.ins e2 h1 h2 h3 h4 h5)
    · cases h
  · cases h
/-- a class named -/
structure ClE (X : Cx) (C : Ct) (e : Expr) (t : Cl) : Prop where
  pe : PE X e (tC (clV C t))
theorem clB {T : String} {x : Str} (hm : X.mg x = none) (hg : Gl X x := by rfl) (hv : bootBuiltins x = some (.type T) := by decide +kernel) (hn : x ≠ "__name__" := by decide) (hd : (x == ("__debug__" : Str)) = false := by decide) : ClE X C (.Name x pos) (.b T) :=
  ⟨pe_bltn (v := .ty T) hg hm hv rfl hn hd⟩
theorem clO {c : Nat} {x : Str} (hm : X.mg x = some (.ref (C.adr c))) (hg : Gl X x := by rfl) (hd : (x == ("__debug__" : Str)) = false := by decide) : ClE X C (.Name x pos) (.o c) :=
  ⟨pe_glob (v := .ref (C.adr c)) hg hm rfl hd⟩
theorem clVU (t : Cl) : ClsV (clV C t) (clU C t) := by
  cases t with
  | b n => exact .ty n
  | o c => exact .own _
def mIsi (sub : Cl → Option Bool) (m : EM U) : EM U := fun e S => (m e S).bind fun u S1 => match tyU u S1 with
  | some t => match sub t with
    | some k => .ok (.bl k) S1
    | none => .bad
  | none => .bad
/-- isinstance(a, T) -/
theorem eIsi {a b : Expr} {m : EM U} {t : Cl} {sub : Cl → Option Bool} {p : Pos} (ha : PE X a (tE C W m)) (hb : ClE X C b t) (hsub : ∀ u k, sub u = some k → PySem.W.kitOne C.K (clU C u) (clU C t) = some k ∧ ∀ c, u = .o c → InsI C c) (hm : X.mg "isinstance" = none)
    (hK : X.K = C.K := by rfl) (hg : Gl X "isinstance" := by rfl) (he : starEach [a, b] X.env = (false, eval a X.env) :: starEach [b] X.env := by rfl) (he2 : starEach [b] X.env = (false, eval b X.env) :: starEach [] X.env := by rfl) (hpl : (backTo pos (starEach [b] X.env)).any (·.1) = false := by rfl) :
    PE X (.Call (.Name "isinstance" p) [a, b] [] pos) (tE C W (mIsi sub m)) :=
  PE_imp (pe_callB call_isi hg hm (by decide +kernel) (pa_cons ha (pa_cons hb.pe pa_nil he2) he) (by decide) (by decide) he hpl) fun σ H Q ⟨w, env, S, at_, p⟩ => tE_mono (fun x H1 ⟨w1, u, S1, at1, l1, r1, p1⟩ => by
    cases ht : tyU u S1 with
    | none => simp only [ht] at p1; exact p1.elim
    | some t' =>
      cases hk : sub t' with
      | none => simp only [ht, hk] at p1; exact p1.elim
      | some k =>
        simp only [ht, hk] at p1
        obtain ⟨h1, h2⟩ := hsub t' k hk
        refine ⟨x, clV C t, clU C t', clU C t, k, rfl, clVU t, ?_, by rw [hK]; exact h1, ?_⟩
        · rw [hK, ← at1.h]; exact tyU_ok at1.s r1 ht h2
        · rw [← at1.h]; exact p1.ok (Le.refl _) at1.s (.bl k)) (tE_of at_ p)
/-- isinstance(a, (T1, T2)) -/
theorem eIsi2 {a b1 b2 : Expr} {m : EM U} {t1 t2 : Cl} {sub : Cl → Option Bool} {p p2 : Pos} {x1} (ha : PE X a (tE C W m)) (hb1 : ClE X C b1 t1) (hb2 : ClE X C b2 t2) (hsub : ∀ u k, sub u = some k → PySem.W.kitAny C.K (clU C u) [clU C t1, clU C t2] = some k ∧ ∀ c, u = .o c → InsI C c) (hm : X.mg "isinstance" = none)
    (hK : X.K = C.K := by rfl) (hg : Gl X "isinstance" := by rfl) (hs1 : starEach [b1, b2] X.env = (false, eval b1 X.env) :: starEach [b2] X.env := by rfl) (hs2 : starEach [b2] X.env = (false, eval b2 X.env) :: starEach [] X.env := by rfl)
    (he : starEach [a, .Tuple [b1, b2] x1 p2] X.env = (false, eval a X.env) :: starEach [.Tuple [b1, b2] x1 p2] X.env := by rfl) (he2 : starEach [.Tuple [b1, b2] x1 p2] X.env = (false, eval (.Tuple [b1, b2] x1 p2) X.env) :: starEach [] X.env := by rfl) (hpl : (backTo pos (starEach [.Tuple [b1, b2] x1 p2] X.env)).any (·.1) = false := by rfl) :
    PE X (.Call (.Name "isinstance" p) [a, .Tuple [b1, b2] x1 p2] [] pos) (tE C W (mIsi sub m)) :=
  PE_imp (pe_callB call_isiT hg hm (by decide +kernel) (pa_cons ha (pa_cons (pe_tup (pa_cons hb1.pe (pa_cons hb2.pe pa_nil hs2) hs1)) pa_nil he2) he) (by decide) (by decide) he hpl) fun σ H Q ⟨w, env, S, at_, p⟩ => tE_mono (fun x H1 ⟨w1, u, S1, at1, l1, r1, p1⟩ => by
    cases ht : tyU u S1 with
    | none => simp only [ht] at p1; exact p1.elim
    | some t' =>
      cases hk : sub t' with
      | none => simp only [ht, hk] at p1; exact p1.elim
      | some k =>
        simp only [ht, hk] at p1
        obtain ⟨h1, h2⟩ := hsub t' k hk
        refine ⟨by show 2 ≤ sizeLine; decide, fun q hq => ?_⟩
        rw [← at1.h] at hq ⊢
        obtain ⟨s2, l2⟩ := at1.s.upd (o := .tup [clV C t1, clV C t2]) hq
        refine ⟨x, q, [clV C t1, clV C t2], clU C t', [clU C t1, clU C t2], k, rfl, upd_same, .cons (clVU t1) (.cons (clVU t2) .nil), ?_, by rw [hK]; exact h1, ?_⟩
        · rw [hK]; exact tyU_ok s2 (r1.le l2) ht h2
        · exact p1.ok l2 s2 (.bl k)) (tE_of at_ p)
end
end OD
end

section
set_option Elab.async false
set_option linter.all false
set_option autoImplicit false
set_option maxRecDepth 100000
set_option maxHeartbeats 4000000
/-! OD11: lambdas made, dicts, locks -/
namespace OD
open PySem L2
section
variable {X : Cx} {C : Ct} {W : WX} {pos : Pos} {w w1 : Wd} {S : Sto} {σ : St} {H : Hp} {env : Env} {D : Ends}
/-! ### a lambda is made -/
theorem eLam (n : Nat) {c P : Addr} {params : Arguments} {body : Expr} {scope : Scope} (TB : LamX.TabB X.base X.mg c P) (hcode : X.env.code = .ref c) (hm : (P, X.env.qual ++ "<lambda>") ∈ C.tabs) (hu : ∀ p ∈ C.tabs, p.1 = P → p.2 = X.env.qual ++ "<lambda>")
    (hfree : ∀ y ∈ scope.names, y.2 = .free → X.env.scope.names.lookup y.1 = some .cell ∨ X.env.scope.names.lookup y.1 = some .free) (hdef : defaultsOf params X.env = ([], []) := by rfl) : PE X (.Lambda params body scope pos) (tE C W (mK (.lam n []))) := by
  refine ⟨fun pins s σ H Q I ⟨w, env, S, at_, p⟩ => ?_⟩
  have hT : LamX.Tabs C.tabs H := by rw [← at_.h]; exact at_.s.tab
  refine LamX.lam_make2 I TB hcode hm hu hT hdef (fun y hy hk => I.ok.has y.1 (hfree y hy hk)) fun f c' pm ctv H1 s' I1 hE hT1 _ _ _ _ => ⟨.ref f, H1, I1, rfl, ?_⟩
  have hE' : LamX.ExtN w.H H1 := by rw [at_.h]; exact hE
  have l : Le w ⟨w.rho, w.n, H1⟩ := ⟨Nat.le_refl _, fun _ _ => rfl, fun a vs e => hE' _ _ e fun _ q => (nomatch q), fun a o u e => hE' _ _ e fun _ q => (nomatch q), fun a o e t r => ⟨hE' _ _ e t, r⟩⟩
  have sm : Sim C ⟨w.rho, w.n, H1⟩ S := ⟨at_.s.len, at_.s.inj, fun i c e => by
    have q := at_.s.cell i c e
    obtain ⟨o, e1, _, n2, _⟩ := q.some
    exact q.leH l (by show H1 (w.rho i) = _; rw [e1]; exact hE' _ _ e1 n2), hT1, at_.s.scr.le l⟩
  exact p.ok l sm .lam
/-! ### {} -/
def mDNew : EM U := fun _ S => .ok (.ref S.length) (S ++ [.dic []])
theorem eDNew : PE X (.Dict [] [] pos) (tE C W mDNew) := PE_imp pe_dnewK fun σ H Q ⟨w, env, S, at_, p⟩ => fun q hq => by
  rw [← at_.h] at hq ⊢
  obtain ⟨s2, l2⟩ := at_.s.new (o := .dK []) (c := .dic []) hq fun w' l e => ⟨_, by rw [e]; exact upd_same, .nil⟩
  exact Ps.ok p l2 s2 (new_ref at_.s)
def mDNewT : EM U := fun _ S => .ok (.ref S.length) (S ++ [.dit []])
theorem eDNewT : PE X (.Dict [] [] pos) (tE C W mDNewT) := PE_imp pe_dnewT fun σ H Q ⟨w, env, S, at_, p⟩ => fun q hq => by
  rw [← at_.h] at hq ⊢
  obtain ⟨s2, l2⟩ := at_.s.new (o := .dT []) (c := .dit []) hq fun w' l e => ⟨_, by rw [e]; exact upd_same, .nil⟩
  exact Ps.ok p l2 s2 (new_ref at_.s)
/-! ### dict(d) -/
def fDict (us : List U) (S : Sto) : Option (U × Sto) := match us with
  | [.ref j] => match S[j]? with
    | some (.dic kvs) => some (.ref S.length, S ++ [.dic kvs])
    | some (.rdic kvs) => some (.ref S.length, S ++ [.dic kvs])
    | _ => none
  | _ => none
theorem cDict : CallR X (.type "dict") (rN C fDict) := by
  intro pins s σ H xs us Q I rv ⟨w, zs, S, e, sm, rz, p⟩
  subst e
  unfold fDict at p
  split at p
  · rename_i j
    obtain ⟨v, rfl, r⟩ := rz.one
    obtain ⟨u, rfl, ru⟩ := vals1 rv
    split at p
    · rename_i kvs e1
      obtain ⟨vs, e2, r1⟩ := sm.cell _ _ e1
      cases r
      obtain rfl : u = Value.ref (w.rho j) := ru
      refine d_copyOf I (.inl e2) fun q s' hq I' => ⟨.ref q, _, I', rfl, ?_⟩
      obtain ⟨s2, l2⟩ := sm.new (o := .dK vs) (c := .dic kvs) hq fun w' l e => ⟨_, by rw [e]; exact upd_same, r1.le l⟩
      exact p.go rfl l2 s2 (new_ref sm)
    · rename_i kvs e1
      obtain ⟨o, vs, e2, r1⟩ := sm.cell _ _ e1
      cases r
      obtain rfl : u = Value.ref (w.rho j) := ru
      refine d_copyOf I (.inr ⟨o, e2⟩) fun q s' hq I' => ⟨.ref q, _, I', rfl, ?_⟩
      obtain ⟨s2, l2⟩ := sm.new (o := .dK vs) (c := .dic kvs) hq fun w' l e => ⟨_, by rw [e]; exact upd_same, r1.le l⟩
      exact p.go rfl l2 s2 (new_ref sm)
    · exact p.elim
  · exact p.elim
/-! ### d.update(d2) -/
def mergeU (kvs more : List (Key × U)) : List (Key × U) := more.foldl (fun acc kv => putKU acc kv.1 kv.2) kvs
theorem merge_rel {more : List (Key × U)} {mv : List (Key × V)} (h : RKs C w id more mv) : ∀ {kvs : List (Key × U)} {vs : List (Key × V)}, RKs C w id kvs vs → RKs C w id (mergeU kvs more) (mergeK vs mv) := by
  induction more generalizing mv with
  | nil => cases h; exact fun r => r
  | cons a t ih =>
    cases h with
    | cons q t' => exact fun r => ih t' (putK_rel q r)
def fUpdate (u : U) (us : List U) (S : Sto) : Option (U × Sto) := match u, us with
  | .ref i, [.ref j] => match S[i]?, S[j]? with
    | some (.dic kvs), some (.dic more) => if i ≠ j ∧ kvs.length + more.length ≤ sizeLine then some (.non, S.set i (.dic (mergeU kvs more))) else none
    | _, _ => none
  | _, _ => none
theorem len_mergeK : ∀ (more kvs : List (Key × V)), (mergeK kvs more).length ≤ kvs.length + more.length
  | [], _ => Nat.le_refl _
  | kv :: more, kvs => by
    have h1 := len_mergeK more (putK kvs kv.1 kv.2)
    have h2 := length_putK kvs kv.1 kv.2
    show (mergeK (putK kvs kv.1 kv.2) more).length ≤ _
    rw [List.length_cons]
    omega
theorem meUpdate : MtR X "dict.update" (rM C fUpdate) := by
  intro pins s σ H x xs v us Q I rx rv ⟨w, u, zs, S, e, sm, ru, rz, p⟩
  subst e
  unfold fUpdate at p
  split at p
  · rename_i i j
    split at p
    · rename_i kvs more e1 e2
      split at p
      · rename_i hz
        obtain ⟨vs, h1, r1⟩ := sm.cell _ _ e1
        obtain ⟨ms, h2, r2⟩ := sm.cell _ _ e2
        obtain ⟨vz, rfl, rz1⟩ := rz.one
        obtain ⟨uz, rfl, ruz⟩ := vals1 rv
        cases ru; cases rz1
        obtain rfl : v = Value.ref (w.rho i) := rx
        obtain rfl : uz = Value.ref (w.rho j) := ruz
        have hne : w.rho i ≠ w.rho j := fun q => hz.1 (sm.inj i j (sm.lt e1) (sm.lt e2) q)
        obtain ⟨z1, d1, vs1, rel1, dd1⟩ := dk_of I.hok h1
        obtain ⟨z2, d2, vs2, rel2, dd2⟩ := dk_of I.hok h2
        refine call_meetsIn F.slot_dict_update dd1.typeIs F.entry_dict_update (F.args_dict_update_2 _ _) (meets_dict_update (mixKind X.prog X.w) _ _ hne d2) ⟨vs1, vs2, dd1, dd2, ?_, fun h' dd' _ hs => ?_⟩
        · rw [← rel1.length, ← rel2.length, ← r1.length, ← r2.length]; exact hz.2
        · have ln := len_mergeK ms vs
          have hl : (mergeK vs ms).length ≤ sizeLine := by rw [← r1.length, ← r2.length] at ln; exact Nat.le_trans ln hz.2
          have I' := d_write (t' := s.toks) I (by rw [h1]; exact True.intro) hs (let ⟨q, _, _, hq, _⟩ := dd'; ⟨q, hq⟩) (dk_new hl d1 (KV.merge rel2 rel1) dd')
          obtain ⟨s3, l3⟩ := sm.put (o := .dK (mergeK vs ms)) (c := .dic (mergeU kvs more)) e1 rfl fun w' l e => ⟨_, by rw [e]; exact upd_same, (merge_rel r2 r1).le l⟩
          exact ⟨.non, _, I', rfl, p.go rfl l3 s3 .non⟩
      · exact p.elim
    · exact p.elim
  · exact p.elim
/-! ### locks -/
theorem Sim.lock (s : Sim C w S) {j : Nat} {kvs : List (Key × U)} (h : S[j]? = some (.dic kvs)) (od : Obj) {vs : List (Key × V)} (e : w.H (w.rho j) = some (.dK vs)) (r : RKs C w id kvs vs) :
    Sim C ⟨w.rho, w.n, L2.upd w.H (w.rho j) (.frz od (.dK vs))⟩ (S.set j (.rdic kvs)) ∧ Le w ⟨w.rho, w.n, L2.upd w.H (w.rho j) (.frz od (.dK vs))⟩ :=
  s.put h rfl fun w' l e => ⟨od, vs, by rw [e]; exact upd_same, r.le l⟩
theorem Sim.unlock {w2 : Wd} {S2 : Sto} (s : Sim C w S) {j : Nat} {kvs : List (Key × U)} (h : S[j]? = some (.dic kvs)) {od : Obj} {vs : List (Key × V)} (e : w.H (w.rho j) = some (.dK vs))
    (l : Le ⟨w.rho, w.n, L2.upd w.H (w.rho j) (.frz od (.dK vs))⟩ w2) (s2 : Sim C w2 S2) {kvs2 : List (Key × U)} (h2 : S2[j]? = some (.rdic kvs2)) :
    w2.H (w.rho j) = some (.frz od (.dK vs)) ∧ Sim C ⟨w2.rho, w2.n, L2.upd w2.H (w.rho j) (.dK vs)⟩ (S2.set j (.dic kvs2)) ∧ Le w ⟨w2.rho, w2.n, L2.upd w2.H (w.rho j) (.dK vs)⟩ ∧ Lf w2 ⟨w2.rho, w2.n, L2.upd w2.H (w.rho j) (.dK vs)⟩ := by
  have hj := s.lt h
  have e2 : w2.H (w.rho j) = some (.frz od (.dK vs)) := l.frz _ _ _ upd_same
  have er : w2.rho j = w.rho j := l.rho j hj
  have f : Lf w2 ⟨w2.rho, w2.n, L2.upd w2.H (w.rho j) (.dK vs)⟩ := ⟨Nat.le_refl _, fun _ _ => rfl, fun b vs' eb => by
    show L2.upd w2.H _ _ b = _
    rw [upd_ne (fun q => by rw [q, e2] at eb; cases eb)]; exact eb⟩
  have l3 : Le w ⟨w2.rho, w2.n, L2.upd w2.H (w.rho j) (.dK vs)⟩ := ⟨l.n, l.rho, fun b vs' eb => f.tup b vs' (l.tup b vs' (by show L2.upd w.H _ _ b = _; rw [upd_ne (fun q => by rw [q, e] at eb; cases eb)]; exact eb)), fun b o u eb => by
      have hb : b ≠ w.rho j := fun q => by rw [q, e] at eb; cases eb
      show L2.upd w2.H _ _ b = _
      rw [upd_ne hb]
      exact l.frz b o u (by show L2.upd w.H _ _ b = _; rw [upd_ne hb]; exact eb), fun b o eb t r => by
      have hb : b ≠ w.rho j := Ne.symm (r j hj)
      obtain ⟨q1, q2⟩ := l.out b o (by show L2.upd w.H _ _ b = _; rw [upd_ne hb]; exact eb) t r
      exact ⟨by show L2.upd w2.H _ _ b = _; rw [upd_ne hb]; exact q1, q2⟩⟩
  refine ⟨e2, ⟨by simp [s2.len], s2.inj, fun i c ei => ?_, (KeepT.upd (fun ps q => by rw [e2] at q; cases q) (fun g q => by rw [e2] at q; cases q)).tabs s2.tab, s.scr.le l3⟩, l3, f⟩
  by_cases hi : i = j
  · subst hi
    rw [List.getElem?_set_self (by rw [s2.len]; exact s2.lt h2)] at ei
    cases ei
    obtain ⟨o', vs', e3, r3⟩ := s2.cell _ _ h2
    rw [er, e2] at e3
    cases e3
    exact ⟨vs, by show L2.upd w2.H _ _ (w2.rho i) = _; rw [er, upd_same], r3.lf f⟩
  · rw [List.getElem?_set_ne (Ne.symm hi)] at ei
    exact (s2.cell i c ei).lf f (by show L2.upd w2.H _ _ (w2.rho i) = _; rw [← er, upd_ne (fun q => hi (s2.inj i j (s2.lt ei) (s2.lt h2) q))])
/-- within, the dict that m tells is read alone -/
def mLkL (m : EM U) (b : EM (List U)) : EM (List U) := fun e S => match m e S with
  | .ok (.ref j) _ => match S[j]? with
    | some (.dic kvs) => (b e (S.set j (.rdic kvs))).nox fun us S2 => match S2[j]? with
      | some (.rdic kvs2) => .ok us (S2.set j (.dic kvs2))
      | _ => .bad
    | _ => .bad
  | _ => .bad
theorem eLkL {e : Expr} {m : EM U} {b : EM (List U)} (h : PE X e (tL C WF b)) : PE X e (tL C W (mLkL m b)) := PE_imp (pe_lock h) fun σ H Q ⟨w, env, S, at_, p⟩ => by
  unfold mLkL at p
  cases hm : m env S with
  | bad => simp only [hm] at p; exact p.elim
  | ex c f S1 => simp only [hm] at p; exact p.elim
  | ok u S1 =>
    cases u with
    | ref j =>
      simp only [hm] at p
      cases h1 : S[j]? with
      | none => simp only [h1] at p; exact p.elim
      | some cl =>
        cases cl with
        | dic kvs =>
          simp only [h1] at p
          obtain ⟨vs, e1, r1⟩ := at_.s.cell _ _ h1
          refine ⟨w.rho j, .dK vs, by rw [← at_.h]; exact e1, trivial, fun od => ?_⟩
          obtain ⟨s1, l1⟩ := Sim.lock at_.s h1 od e1 r1
          rw [← at_.h]
          refine ⟨_, env, S.set j (.rdic kvs), ⟨rfl, at_.e.le l1, s1⟩, ?_⟩
          cases hb : b env (S.set j (.rdic kvs)) with
          | bad => rw [hb] at p; exact p.elim
          | ex c f S2 => rw [hb] at p; exact p.elim
          | ok us S2 =>
            rw [hb] at p
            intro w2 x l2 s2 ⟨d, ws, ex, hd, nw, hr, rs⟩
            subst ex
            cases h2 : S2[j]? with
            | none => simp only [Rs.nox, h2] at p; exact p.elim
            | some cl2 =>
              cases cl2 with
              | rdic kvs2 =>
                simp only [Rs.nox, h2] at p
                obtain ⟨e2, s3, l3, f3⟩ := Sim.unlock at_.s h1 e1 l2 s2 h2
                refine ⟨e2, p _ (.ref d) l3 s3 ⟨d, ws, rfl, ?_, fun o eo => ?_, hr, rs.lf f3⟩⟩
                · show L2.upd w2.H _ _ d = _
                  rw [upd_ne (fun q => by rw [q, e2] at hd; cases hd)]
                  exact hd
                · by_cases hdj : d = w.rho j
                  · exfalso
                    rw [hdj, e2] at hd
                    cases hd
                  · exact nw o (by show L2.upd w.H _ _ d = _; rw [upd_ne hdj]; exact eo)
              | _ => simp only [Rs.nox, h2] at p; exact p.elim
        | _ => simp only [h1] at p; exact p.elim
    | _ => simp only [hm] at p; exact p.elim
def unlk (j : Nat) (S : Sto) : Option Sto := match S[j]? with
  | some (.rdic kvs) => some (S.set j (.dic kvs))
  | _ => none
def mLkS (m : EM U) (b : SM) : SM := fun e S => match m e S with
  | .ok (.ref j) _ => match S[j]? with
    | some (.dic kvs) => match b e (S.set j (.rdic kvs)) with
      | .nx e2 S2 => match unlk j S2 with
        | some S3 => .nx e2 S3
        | none => .bad
      | .rt u S2 => match unlk j S2 with
        | some S3 => .rt u S3
        | none => .bad
      | .ct e2 S2 => .bad
      | .bk e2 S2 => .bad
      | .ex c f e2 S2 => .ex c f e2 S2
      | .bad => .bad
    | _ => .bad
  | _ => .bad
theorem unlk_some {j : Nat} {S S3 : Sto} (h : unlk j S = some S3) : ∃ kvs, S[j]? = some (.rdic kvs) ∧ S3 = S.set j (.dic kvs) := by
  unfold unlk at h
  split at h
  · rename_i kvs e
    exact ⟨kvs, e, (Option.some.inj h).symm⟩
  · cases h
theorem sLkS {st : Stmt} {m : EM U} {b : SM} (h : PS X st (tS C W b)) : PS X st (tS C W (mLkS m b)) := PS_imp (ps_lock h) fun D σ H ⟨w, env, S, at_, p⟩ => by
  unfold mLkS at p
  cases hm : m env S with
  | bad => simp only [hm] at p; exact p.elim
  | ex c f S1 => simp only [hm] at p; exact p.elim
  | ok u S1 =>
    cases u with
    | ref j =>
      simp only [hm] at p
      cases h1 : S[j]? with
      | none => simp only [h1] at p; exact p.elim
      | some cl =>
        cases cl with
        | dic kvs =>
          simp only [h1] at p
          obtain ⟨vs, e1, r1⟩ := at_.s.cell _ _ h1
          refine ⟨w.rho j, .dK vs, by rw [← at_.h]; exact e1, trivial, fun od => ?_⟩
          obtain ⟨s1, l1⟩ := Sim.lock at_.s h1 od e1 r1
          rw [← at_.h]
          refine ⟨_, env, S.set j (.rdic kvs), ⟨rfl, at_.e.le l1, s1⟩, ?_⟩
          cases hb : b env (S.set j (.rdic kvs)) with
          | bad => simp only [hb] at p; exact p.elim
          | ex c f e2 S2 => simp only [hb] at p; exact fun w2 σ2 d l2 s2 a2 x2 => p w2 σ2 d (l1.trans l2) s2 a2 x2
          | bk e2 S2 => simp only [hb] at p; exact p.elim
          | ct e2 S2 => simp only [hb] at p; exact p.elim
          | nx e2 S2 =>
            simp only [hb] at p
            intro w2 σ2 l2 s2 a2
            cases hu : unlk j S2 with
            | none => simp only [hu] at p; exact p.elim
            | some S3 =>
              simp only [hu] at p
              obtain ⟨kvs2, h2, rfl⟩ := unlk_some hu
              obtain ⟨e3, s3, l3, f3⟩ := Sim.unlock at_.s h1 e1 l2 s2 h2
              exact ⟨e3, p _ σ2 l3 s3 (a2.lf f3)⟩
          | rt u2 S2 =>
            simp only [hb] at p
            intro w2 v2 l2 s2 r2
            cases hu : unlk j S2 with
            | none => simp only [hu] at p; exact p.elim
            | some S3 =>
              simp only [hu] at p
              obtain ⟨kvs2, h2, rfl⟩ := unlk_some hu
              obtain ⟨e3, s3, l3, f3⟩ := Sim.unlock at_.s h1 e1 l2 s2 h2
              exact ⟨e3, p _ v2 l3 s3 (r2.lf f3)⟩
        | _ => simp only [h1] at p; exact p.elim
    | _ => simp only [hm] at p; exact p.elim
/-! ### the keys of a locked dict -/
def keyUV : Key → U
  | .inl i => .int i
  | .inr x => .str x.cps.toList
theorem keyUV_ok (k : Key) : RV C w (keyUV k) (kV k) := by
  cases k with
  | inl i => exact .int i
  | inr x =>
    have e : x = toS x.cps.toList := by cases x; simp [toS]
    have r : RV C w (.str x.cps.toList) (.str (toS x.cps.toList)) := .str _
    rw [← e] at r
    exact r
def msK (m : EM U) : EM Src := fun e S => (m e S).bind fun u S1 => match u with
  | .ref j => match S1[j]? with
    | some (.rdic kvs) => .ok (.its (kvs.map fun kv => keyUV kv.1)) S1
    | _ => .bad
  | _ => .bad
theorem RKs.keyAt : ∀ {us : List (Key × U)} {vs : List (Key × V)} {i : Nat} {k : Key} {v : V}, RKs C w id us vs → vs[i]? = some (k, v) → ∃ u, us[i]? = some (k, u) ∧ RV C w u v
  | _, _, _, _, _, .nil, h => by simp at h
  | _, _, 0, _, _, .cons r _, h => by simp at h; obtain ⟨rfl, rfl⟩ := h; exact ⟨_, rfl, r⟩
  | _, _, i + 1, k, v, .cons _ t, h => by
    obtain ⟨u, h1, h2⟩ := RKs.keyAt (i := i) (k := k) (v := v) t (by simpa using h)
    exact ⟨u, by simpa using h1, h2⟩
theorem iK {tg e : Expr} {m : EM U} (h : PE X e (tE C W m)) : PI X tg e (tI C W (msK m)) := PI_imp (pi_keys h) fun σ H R ⟨w, env, S, at_, p⟩ => tE_mono (fun x H1 ⟨w1, u, S1, at1, l1, r1, p1⟩ => by
  cases u with
  | ref j =>
    simp only at p1
    cases e1 : S1[j]? with
    | none => simp only [e1] at p1; exact p1.elim
    | some cl =>
      cases cl with
      | rdic kvs =>
        simp only [e1] at p1
        obtain ⟨o, vs, e2, rs⟩ := at1.s.cell _ _ e1
        cases r1
        refine ⟨_, o, rfl, .inl ⟨vs, by rw [← at1.h]; exact e2, ?_⟩⟩
        rw [← at1.h]
        refine p1.ok (Le.refl _) at1.s fun w' S' l sm us hu => ?_
        cases hu
        have hG : w'.H (w1.rho j) = some (.frz o (.dK vs)) := l.frz _ _ _ e2
        have wk := walk_keys (d := w1.rho j) (o := o) (kvs := vs)
        have hlen : (kvs.map fun kv => keyUV kv.1).length = vs.length := by rw [List.length_map]; exact rs.length
        refine ⟨fun i u hi => ?_, by rw [hlen]; exact wk.stops _ hG⟩
        have hlt : i < vs.length := by rw [← hlen]; exact (List.getElem?_eq_some_iff.mp hi).1
        refine ⟨wk.goes i _ hlt hG, fun y H' hy => ?_⟩
        obtain ⟨e3, k, v, e4, e5⟩ := wk.yields i _ y H' hlt hG hy
        obtain ⟨u0, e6, _⟩ := rs.keyAt e4
        rw [List.getElem?_map, e6] at hi
        cases hi
        exact ⟨w', e3.symm, Le.refl _, sm, by rw [e5]; exact keyUV_ok k⟩
      | _ => simp only [e1] at p1; exact p1.elim
  | _ => exact p1.elim) (tE_of at_ p)
/-! ### str.join, len(set(..)), extend with a tuple -/
def strsOf : List U → Option (List (List Nat))
  | [] => some []
  | .str s :: r => (strsOf r).map (s :: ·)
  | _ => none
theorem strsOf_ok : ∀ {us : List U} {vs : List V} {ss : List (List Nat)}, RVs C w us vs → strsOf us = some ss → vs = (ss.map toS).map V.str
  | _, _, _, .nil, h => by simp only [strsOf] at h; cases h; rfl
  | _, _, _, .cons (u := u) (us := us) r t, h => by
    cases r <;> simp only [strsOf] at h <;> try (cases h; done)
    cases q : strsOf us with
    | none => rw [q] at h; cases h
    | some ms => rw [q] at h; cases h; rw [strsOf_ok t q]; rfl
def seqStrs (u : U) (S : Sto) : Option (List (List Nat)) := match seqOf u S with
  | some xs => strsOf xs
  | none => none
def mLenSet (m : EM U) : EM U := fun e S => (m e S).bind fun u S1 => match u with
  | .scr _ => .bad
  | u => match seqStrs u S1 with
    | some ss => if ss.length ≤ 1 then .ok (.int ss.length) S1 else .bad
    | none => .bad
theorem eLenSet {a : Expr} {m : EM U} {p p2 q : Pos} (hm : X.mg "len" = none) (hm2 : X.mg "set" = none) (ha : PE X a (tE C W m)) (hc : X.calm = true := by rfl) (hK : X.K = C.K := by rfl) (hg : Gl X "len" := by rfl) (hg2 : Gl X "set" := by rfl)
    (na : starEach [a] X.env = (false, eval a X.env) :: starEach [] X.env := by rfl) : PE X (.Call (.Name "len" p) [.Call (.Name "set" p2) [a] [] q] [] pos) (tE C W (mLenSet m)) :=
  PE_imp (pe_lenSet hc hg hm hg2 hm2 ha na) fun σ H Q ⟨w, env, S, at_, p⟩ => tE_mono (fun x H1 ⟨w1, u, S1, at1, l1, r1, p1⟩ => by
    have key : ∀ ss, seqStrs u S1 = some ss → ss.length ≤ 1 → Q (.int ss.length) H1 → ∃ l, ∃ xs : List Str, x = .ref l ∧ (SqL X.K H1 l (xs.map V.str) ∨ SqT X.K H1 l (xs.map V.str)) ∧ xs.length ≤ 1 ∧ Q (.int xs.length) H1 := fun ss hs hl hq => by
      unfold seqStrs at hs
      cases h0 : seqOf u S1 with
      | none => rw [h0] at hs; cases hs
      | some xs =>
        rw [h0] at hs
        obtain ⟨q, vs, rfl, r2, h3, _⟩ := seqOf_ok at1.s r1 h0
        have ev := strsOf_ok r2 hs
        subst ev
        exact ⟨q, ss.map toS, rfl, by rw [hK, ← at1.h]; exact h3, by rw [List.length_map]; exact hl, by rw [List.length_map]; exact hq⟩
    cases u with
    | scr ns => exact p1.elim
    | _ =>
      simp only at p1
      split at p1
      · rename_i ss hs
        split at p1
        · rename_i hl
          exact key ss hs hl (by rw [← at1.h]; exact p1.ok (Le.refl _) at1.s (.int _))
        · exact p1.elim
      · exact p1.elim) (tE_of at_ p)
end
end OD
end

section
set_option Elab.async false
set_option linter.all false
set_option autoImplicit false
set_option maxRecDepth 100000
set_option maxHeartbeats 4000000
/-! OD12: dict comprehensions, join, extend, calls of a local that holds a def, tuple * int, zip -/
namespace OD
open PySem L2
section
variable {X : Cx} {C : Ct} {W : WX} {pos : Pos} {w w1 : Wd} {S : Sto} {σ : St} {H : Hp} {env : Env} {D : Ends}
def dcGo (x : Src) (t : Tgt) (vs : List Nat) (tt : EM Bool) (tk tv : EM U) (env : Env) (j : Nat) : Nat → Nat → Sto → Rs U
  | 0, _, _ => .bad
  | n + 1, i, S => match srcAt x S with
    | none => .bad
    | some us => match us[i]? with
      | none => if i = us.length then .ok (.ref j) S else .bad
      | some u => match setT t u (wipeE env vs) with
        | none => .bad
        | some e' => (tt e' S).nox fun k S1 => match k with
          | true => (tk e' S1).nox fun y S2 => (tv e' S2).nox fun z S3 => match S3[j]?, keyU y with
            | some (.dic kvs), some key => if kvs.length < sizeLine then dcGo x t vs tt tk tv env j n (i + 1) (S3.set j (.dic (putKU kvs key z))) else .bad
            | _, _ => .bad
          | false => dcGo x t vs tt tk tv env j n (i + 1) S1
def mDc (m : EM Src) (t : Tgt) (vs : List Nat) (tt : EM Bool) (tk tv : EM U) : EM U := fun e S => (m e S).bind fun x S1 => match srcAt x S1 with
  | none => .bad
  | some us => dcGo x t vs tt tk tv e S1.length (us.length + 1) 0 (S1 ++ [.dic []])
theorem tDc_of {m : EM Src} {t : Tgt} {vs : List Nat} {tt : EM Bool} {tk tv : EM U} {K : PySem.W.Frag} (hv : ∀ i ∈ slots t, i ∈ vs) {Q : VK} (h : tE C W (mDc m t vs tt tk tv) σ H Q) : tDc (tI C W m) (gOf K t) (tT C WF tt) (tE C WF tk) (tE C WF tv) vs σ H Q := by
  obtain ⟨w00, env, S, at_, p⟩ := h
  refine tI_mono (fun J H1 ⟨w0, x, S1, at1, l1, rs, p1⟩ => ?_) (tI_bind at_ p)
  intro d hd
  rw [← at1.h] at hd ⊢
  cases hu : srcAt x S1 with
  | none => simp only [hu] at p1; exact p1.elim
  | some us0 =>
    simp only [hu] at p1
    obtain ⟨s1, l1'⟩ := at1.s.new (o := .dK []) (c := .dic []) hd fun w' l e => ⟨_, by rw [e]; exact upd_same, .nil⟩
    have r0 : RV C ⟨fun i => if i = w0.n then d else w0.rho i, w0.n + 1, upd w0.H d (.dK [])⟩ (.ref S1.length) (.ref d) := new_ref at1.s
    refine ⟨fun i n H => ∃ w S, w.H = H ∧ EnvR C w env σ ∧ Sim C w S ∧ Le w0 w ∧ RV C w (.ref S1.length) (.ref d) ∧ Ps C W σ w0 (dcGo x t vs tt tk tv env S1.length n i S) (RV C) Q,
      ⟨us0.length + 1, _, _, rfl, at1.e.le l1', s1, l1', r0, p1⟩, ?_⟩
    rintro i n H ⟨w, S, rfl, ae, sm, l, rd, p⟩
    cases n with
    | zero => exact p.elim
    | succ n =>
      unfold dcGo at p
      cases hus : srcAt x S with
      | none => simp only [hus] at p; exact p.elim
      | some us =>
        obtain ⟨q1, q2⟩ := rs w S l sm us hus
        simp only [hus] at p
        cases hx : us[i]? with
        | none =>
          simp only [hx] at p
          split at p
          · rename_i hl
            subst hl
            exact .inl ⟨q2, p.ok l sm rd⟩
          · exact p.elim
        | some u =>
          obtain ⟨q3, q4⟩ := q1 i u hx
          refine .inr ⟨q3, fun H => ∃ w S, w.H = H ∧ EnvR C w env σ ∧ Sim C w S ∧ Le w0 w ∧ RV C w (.ref S1.length) (.ref d) ∧ Ps C W σ w0 (dcGo x t vs tt tk tv env S1.length n (i + 1) S) (RV C) Q, fun H' h => ⟨n, Nat.lt_succ_self n, h⟩, fun y H' hy => ?_⟩
          obtain ⟨w2, rfl, l2, s2, r2⟩ := q4 y H' hy
          simp only [hx] at p
          cases hT : setT t u (wipeE env vs) with
          | none => simp only [hT] at p; exact p.elim
          | some env' =>
            simp only [hT] at p
            refine gOf_ok rfl (wipe_rel (ae.le l2) vs) r2 hT fun σ2 a2 hw => ⟨?_, w2, env', S, ⟨rfl, a2, s2⟩, Ps_mono (fun k H3 ⟨w3, k', S3, e3, l3, s3, r3, p3⟩ => ?_) (Ps_nox (R := RB) p)⟩
            · have z := hw vs hv
              rw [z]
              exact wipe_wipe σ vs
            · cases r3
              subst e3
              cases k with
              | true =>
                rw [if_pos rfl]
                refine ⟨w3, env', S3, ⟨rfl, a2.le l3, s3⟩, Ps_mono (fun z H4 ⟨w4, z', S4, e4, l4, s4, r4, p4⟩ => ?_) (Ps_nox (R := RV C) p3)⟩
                subst e4
                refine ⟨w4, env', S4, ⟨rfl, (a2.le l3).le l4, s4⟩, Ps_mono (fun y5 H5 ⟨w5, y', S5, e5, l5, s5, r5, p5⟩ => ?_) (Ps_nox (R := RV C) p4)⟩
                subst e5
                cases hc : S5[S1.length]? with
                | none => simp only [hc] at p5; exact p5.elim
                | some cl =>
                  cases cl with
                  | dic kvs =>
                    cases hk : keyU z' with
                    | none => simp only [hc, hk] at p5; exact p5.elim
                    | some key =>
                      simp only [hc, hk] at p5
                      obtain ⟨vs5, e6, r6⟩ := s5.cell _ _ hc
                      have rd5 := ((rd.le l2).le l3).le l4 |>.le l5
                      have ed : w5.rho S1.length = d := by
                        have : ∀ v : V, RV C w5 (.ref S1.length) v → v = .ref (w5.rho S1.length) := fun v r => by cases r; rfl
                        have q := this _ rd5
                        injection q with q
                        exact q.symm
                      split at p5
                      · rename_i hz
                        obtain ⟨s7, l7⟩ := s5.put (o := .dK (putK vs5 key y5)) (c := .dic (putKU kvs key y')) hc rfl fun w' l e => ⟨_, by rw [e]; exact upd_same, (putK_rel r5 r6).le l⟩
                        have l05 := (((l.trans l2).trans l3).trans l4).trans l5
                        rw [ed] at e6
                        refine ⟨vs5, key, keyU_ok r4 hk, e6, by rw [← r6.length]; exact hz, ?_⟩
                        rw [ed] at s7 l7
                        exact ⟨_, _, rfl, ((((ae.le l2).le l3).le l4).le l5).le l7, s7, l05.trans l7, rd5.le l7, p5⟩
                      · exact p5.elim
                  | _ => simp only [hc] at p5; exact p5.elim
              | false =>
                rw [if_neg (by decide)]
                exact ⟨w3, S3, rfl, (ae.le l2).le l3, s3, (l.trans l2).trans l3, (rd.le l2).le l3, p3⟩
theorem eDc {kx vx tg iter : Expr} {ifs : List Expr} {scope : Scope} {own : List (Str × Nat)} {m : EM Src} {t : Tgt} {tt : EM Bool} {tk tv : EM U} (hN : X.N.Nodup) (hi : PI X tg iter (tI C W m)) (ok : BlkOk X.N X.env.scope scope own)
    (hg : ∀ (s : Shared) (H : Hp) (D : Addr) (cl : List (Str × Addr)) (fp : List Addr), PG (X.blk s H scope (compEnvC scope cl D X.env) fp) tg (gOf C.K t)) (ht : ∀ (s : Shared) (H : Hp) (D : Addr) (cl : List (Str × Addr)) (fp : List Addr), PTs (X.blk s H scope (compEnvC scope cl D X.env) fp) ifs (tT C WF tt))
    (hk : ∀ (s : Shared) (H : Hp) (D : Addr) (cl : List (Str × Addr)) (fp : List Addr), PE (X.blk s H scope (compEnvC scope cl D X.env) fp) kx (tE C WF tk)) (he : ∀ (s : Shared) (H : Hp) (D : Addr) (cl : List (Str × Addr)) (fp : List Addr), PE (X.blk s H scope (compEnvC scope cl D X.env) fp) vx (tE C WF tv))
    (hv : ∀ i ∈ slots t, i ∈ own.map (·.2) := by decide) (hc : X.calm = true := by rfl) (hs : ∀ x, foldedSetIterable iter X.env x = pure x := by intro _; rfl) :
    PE X (.DictComp kx vx [⟨tg, iter, ifs, 0⟩] scope pos) (tE C W (mDc m t (own.map (·.2)) tt tk tv)) :=
  PE_imp (pe_dc hc hN hi ok hg ht hk he hs) fun σ H Q h => tDc_of hv h
/-! ### str.join -/
def fJoin (u : U) (us : List U) (S : Sto) : Option (U × Sto) := match u, us with
  | .str a, [.scr _] => none
  | .str a, [v] => match seqStrs v S with
    | some ss => if (ss.map List.length).sum + ss.length * a.length ≤ 16777216 then some (.str (TL.joinL a ss), S) else none
    | none => none
  | _, _ => none
theorem meJoin (hK : X.K = C.K := by rfl) : MtR X "str.join" (rM C fJoin) := by
  intro pins s σ H x xs v us Q I rx rv ⟨w, u, zs, S, e, sm, ru, rz, p⟩
  refine mt_join (X := X) (pins := pins) (s := s) (σ := σ) (H := H) x xs v us Q I rx rv ?_
  subst e
  unfold fJoin at p
  split at p
  · exact p.elim
  · rename_i a v' hns
    obtain ⟨vz, rfl, rz1⟩ := rz.one
    cases ru
    cases h0 : seqStrs v' S with
    | none => simp only [h0] at p; exact p.elim
    | some ss =>
      simp only [h0] at p
      split at p
      · rename_i hz
        unfold seqStrs at h0
        cases h1 : seqOf v' S with
        | none => rw [h1] at h0; cases h0
        | some ys =>
          rw [h1] at h0
          obtain ⟨q, vs, rfl, r2, h3, _⟩ := seqOf_ok sm rz1 h1
          have ev := strsOf_ok r2 h0
          subst ev
          refine ⟨toS a, q, ss.map toS, rfl, rfl, by rw [hK]; exact h3, ?_, ?_⟩
          · rw [List.map_map, List.length_map]
            have : (fun x : Str => x.length) ∘ toS = List.length := by funext l; exact toS_len l
            rw [show ((fun x => Str.length x) ∘ toS) = List.length from this, toS_len]
            exact hz
          · rw [show Txt.join (toS a) (ss.map toS) = toS (TL.joinL a ss) from SX.join_S a ss]
            exact p.pure rfl rfl sm (.str _)
      · exact p.elim
  · exact p.elim

/-! ### xs.extend(ys) -/
section
open PySem.SeqAt
open PySem.AutoSeq1 (wpAny_loadPart')
open PySem.MeetsSeq PySem.MeetsSeq2 PySem.MeetsSeq3
theorem ext_tuple (l : Addr) (items : Array Value) (n : Nat) (b : Addr) (items2 : Array Value) (n2 : Nat) (dd : Option Addr) (sl : Array (Option Value)) (hs0 : ¬(!items.isEmpty && Builtin.List.listTooLong (items.size + items2.size)) = true) (hs1 : items.size ≤ sizeLine) (hs2 : items.size + items2.size ≤ sizeLine + 1) :
    Meets (Builtin.«list.extend» ⟨[.ref l, .ref b], []⟩) (fun _ R s => s.heap.get? l = some { cls := .type "list", dict := none, data := .seq items n, slots := #[] } ∧ s.heap.get? b = some { cls := .type "tuple", dict := dd, data := .seq items2 n2, slots := sl } ∧ R (.ok (.ret Value.none)) { s with heap := s.heap.update l (Obj.mapSeq fun x => x ++ items2), toks := s.toks }) :=
  .of_wp fun prog w A R s h => by
    obtain ⟨hp, g, d, tk, os⟩ := s; obtain ⟨hl, hb, h⟩ := h; have f1 := PySem.AutoSeq1.idx_int; have f2 := PySem.AutoSeq1.sub_tuple_tuple; have f3 := PySem.AutoSeq1.sub_list_list; have f4 := PySem.AutoSeq1.sub_tuple_list; have f5 := PySem.AutoSeq1.sub_list_tuple
    have hz' : (items ++ items2).size ≤ sizeLine + 1 := by rw [Array.size_append]; exact hs2
    wp_walk using (wpAny_updateSeq hl rfl (hz := hs1) (_hz' := hz')), wpAny_loadPart' hl, wpAny_loadPart' hb; exact ⟨_, rfl, h⟩
end
def fExt (u : U) (us : List U) (S : Sto) : Option (U × Sto) := match u, us with
  | .ref i, [.tup ys] => match S[i]? with
    | some (.lst xs) => if xs.length + ys.length ≤ sizeLine then some (.non, S.set i (.lst (xs ++ ys))) else none
    | _ => none
  | .ref i, [.ref j] => match S[i]?, S[j]? with
    | some (.lst xs), some (.lst ys) => if xs.length + ys.length ≤ sizeLine then some (.non, S.set i (.lst (xs ++ ys))) else none
    | _, _ => none
  | _, _ => none
theorem meExtend (hK : X.K = C.K := by rfl) : MtR X "list.extend" (rM C fExt) := by
  intro pins s σ H x xs v us Q I rx rv ⟨w, u, zs, S, e, sm, ru, rz, p⟩
  subst e
  unfold fExt at p
  split at p
  · rename_i i ys
    split at p
    · rename_i as e1
      split at p
      · rename_i hz
        obtain ⟨vs, h1, r1⟩ := sm.cell _ _ e1
        obtain ⟨vz, rfl, rz1⟩ := rz.one
        obtain ⟨uz, rfl, ruz⟩ := vals1 rv
        cases ru
        cases rz1 with
        | tup e2 r2 =>
          rename_i b bs
          obtain rfl : v = Value.ref (w.rho i) := rx
          obtain rfl : uz = Value.ref b := ruz
          obtain ⟨z, its, n, r, hl, eo⟩ := I.lstM h1
          obtain ⟨its2, rb, ⟨⟨cls, dd, data, sl⟩, ho, hc, n2, hd⟩, hz2⟩ := I.tuple (SqT.of e2)
          simp only at hc hd
          subst hc hd
          have l1 := r1.length
          have l2 := r2.length
          have l3 := rb.length
          have hsz : its.toArray.size + its2.toArray.size ≤ sizeLine := by rw [List.size_toArray, List.size_toArray]; omega
          have hlong : ¬ (!its.toArray.isEmpty && Builtin.List.listTooLong (its.toArray.size + its2.toArray.size)) = true := by
            rw [notLongL hsz, Bool.and_false]
            exact Bool.false_ne_true
          refine call_meets F.slot_list_extend ⟨_, eo, rfl⟩ F.entry_list_extend (F.args_list_extend_2 _ _)
            (ext_tuple _ its.toArray n b its2.toArray n2 dd sl hlong (by rw [List.size_toArray]; omega) (by omega)) ⟨eo, ho, ?_⟩
          obtain ⟨s3, l3'⟩ := sm.put (o := .lst (vs ++ bs)) (c := .lst (as ++ ys)) e1 rfl fun w' l e => ⟨_, by rw [e]; exact upd_same, (r1.append r2).le l⟩
          refine ⟨.non, _, I.lset (its' := its ++ its2) h1 eo (by simp) (r.append rb) ?_, rfl, p.go rfl l3' s3 .non⟩
          rw [List.length_append]
          omega
      · exact p.elim
    · exact p.elim
  · rename_i i j
    split at p
    · rename_i as ys e1 e2
      split at p
      · rename_i hz
        obtain ⟨vs, h1, r1⟩ := sm.cell _ _ e1
        obtain ⟨bs, h2, r2⟩ := sm.cell _ _ e2
        obtain ⟨vz, rfl, rz1⟩ := rz.one
        cases ru; cases rz1
        obtain ⟨s3, l3'⟩ := sm.put (o := .lst (vs ++ bs)) (c := .lst (as ++ ys)) e1 rfl fun w' l e => ⟨_, by rw [e]; exact upd_same, (r1.append r2).le l⟩
        exact mt_extend (X := X) pins s σ w.H _ _ v us Q I rx rv ⟨_, _, vs, bs, rfl, rfl, h1, h2, by rw [← r1.length, ← r2.length]; exact hz, p.go rfl l3' s3 .non⟩
      · exact p.elim
    · exact p.elim
  · exact p.elim
/-! ### a call of a local name that holds a def -/
def mCallV (tab : Nat → Option (Nat × FM)) (i : Nat) (ms : EM (List U)) : EM U := fun e S => match e[i]? with
  | some (some (.fn f)) => match tab f with
    | some (n, D) => (ms e S).bind fun us S1 => if us.length = n then D us S1 else .bad
    | none => .bad
  | _ => .bad
theorem eCallL {e : Expr} {es : List Expr} {ms : EM (List U)} {x : Str} {p : Pos} {k i : Nat} {tab : Nat → Option (Nat × FM)} (F : ∀ f n D, tab f = some (n, D) → Fi X.prog X.w X.mg X.base C k f n D) (tk : Takes X W) (hr : Room k X.A) (ha : PA X (e :: es) (tA C W ms))
    (hN : X.N[i]? = some x := by rfl) (hv : Vis X.env.scope x := by first | exact Or.inl rfl | exact Or.inr (Or.inl rfl) | exact Or.inr (Or.inr rfl)) (hK : X.K = C.K := by rfl)
    (hdb : (x == ("__debug__" : Str)) = false := by decide) (hcd : (x == ("__classdict__" : Str)) = false := by decide)
    (he : starEach (e :: es) X.env = (false, eval e X.env) :: starEach es X.env := by rfl) (hpl : (backTo pos (starEach es X.env)).any (·.1) = false := by rfl) :
    PE X (.Call (.Name x p) (e :: es) [] pos) (tE C W (mCallV tab i ms)) := by
  refine ⟨fun pins s σ H Q I ⟨w, env, S, a, q⟩ => ?_⟩
  unfold mCallV at q
  cases h1 : env[i]? with
  | none => simp only [h1] at q; exact q.elim
  | some o =>
    cases o with
    | none => simp only [h1] at q; exact q.elim
    | some u =>
      cases u with
      | fn f =>
        simp only [h1] at q
        cases h2 : tab f with
        | none => simp only [h2] at q; exact q.elim
        | some nd =>
          obtain ⟨n, D⟩ := nd
          simp only [h2] at q
          have G := F f n D h2
          obtain ⟨fd, ps, Fk, b⟩ := G.ex
          obtain ⟨v0, hσ, r0⟩ := a.e.get h1
          have ev : v0 = .ref (C.adr f) := by cases r0; rfl
          subst ev
          have hk : PySem.W.keepIn X.K (.ref (C.adr f)) = true := by rw [hK]; exact G.kp
          have f' : FnOk X.prog X.w X.K X.mg X.base (L2.CX X.prog X.w) k (C.adr f) fd ps (spI C n D) := by rw [hK]; exact Fk
          have b' : Binds X.K fd ps [] := by rw [hK]; exact b
          refine wpAny_Call_Name_kw (thn ((pe_var (pos := p) hN hv hdb hcd).run pins s σ H (fun v H1 => v = .ref (C.adr f) ∧ H1 = H) I ⟨.ref (C.adr f), hσ, rfl, rfl⟩) fun u s1 ⟨v, H1, I1, r1, q1⟩ => ?_)
          obtain ⟨rfl, rfl⟩ := q1
          cases r1
          refine PySem.W.callWith_K (h₀ := X.base) I.ok.mod.kin hk (thn (ha.run pos pins s1 σ _ (fun vs H2 => spI C n D (vs ++ []) H2 Q (fun cls d H => W cls d σ H)) I1 (tA_mono (fun vs H1 ⟨w1, us, S1, at1, l1, r1, p1⟩ => by
            split at p1
            · rename_i hn
              exact ⟨w1, us, S1, at1.h, at1.s, by rw [List.append_nil]; exact r1, hn, PsC_of p1⟩
            · exact p1.elim) (tA_of a q))) fun us s2 ⟨vs, H2, I2, r, q⟩ => ⟨I2.kIn, ?_⟩) he hpl
          exact run_fnSD (dvs := []) (ds := []) (E := fun σ cls d H => W cls d σ H) f' hr b' .nil (passAt tk σ) I2 r q
      | _ => simp only [h1] at q; exact q.elim
/-! ### tuple * int -/
def fMulT (u v : U) (S : Sto) : Option (U × Sto) := match u, v with
  | .tup xs, .int k => if xs ≠ [] ∧ 2 ≤ k ∧ k ≤ 1000 ∧ xs.length ≤ 1000 then some (.tup (List.replicate k.toNat xs).flatten, S) else none
  | _, _ => none
theorem RVs.rep {us : List U} {vs : List V} (r : RVs C w us vs) : ∀ n : Nat, RVs C w (List.replicate n us).flatten (List.replicate n vs).flatten
  | 0 => .nil
  | n + 1 => by
    rw [List.replicate_succ, List.replicate_succ, List.flatten_cons, List.flatten_cons]
    exact r.append (RVs.rep r n)
theorem opMulT (hK : X.K = C.K := by rfl) : OpR X (binaryOp .Mult) (rB C fMulT) := by
  intro pins s σ H x y v u Q I rx ry ⟨w, a, b, S, e, sm, ra, rb, p⟩
  subst e
  refine op_repT pins s σ w.H x y v u Q I rx ry ?_
  unfold fMulT at p
  split at p
  · rename_i xs k
    split at p
    · rename_i hz
      cases ra with
      | tup e2 r2 =>
        cases rb
        refine ⟨_, k, _, rfl, rfl, SqT.of e2, fun q => hz.1 ?_, hz.2.1, hz.2.2.1, by rw [← r2.length]; exact hz.2.2.2, fun q hq => ?_⟩
        · subst q
          cases r2
          rfl
        · obtain ⟨s2, l2⟩ := sm.upd (o := .tup (List.replicate k.toNat _).flatten) hq
          exact p.go rfl l2 s2 (.tup upd_same ((r2.rep k.toNat).le l2))
    · exact p.elim
  · exact p.elim
/-! ### zip -/
theorem zipU_get {xs ys : List U} {i : Nat} {u : U} (h : (zipU xs ys)[i]? = some u) : ∃ a b, xs[i]? = some a ∧ ys[i]? = some b ∧ u = .tup [a, b] := by
  unfold zipU at h
  rw [List.getElem?_zipWith] at h
  cases h1 : xs[i]? with
  | none => rw [h1] at h; simp at h
  | some a =>
    cases h2 : ys[i]? with
    | none => rw [h1, h2] at h; simp at h
    | some b => rw [h1, h2] at h; simp at h; exact ⟨a, b, rfl, rfl, h.symm⟩
theorem zipU_len (xs ys : List U) : (zipU xs ys).length = min xs.length ys.length := by
  unfold zipU
  exact List.length_zipWith
def msZip (ms : EM (List U)) : EM Src := fun e S => (ms e S).bind fun us S1 => match us with
  | [.tup xs, .tup ys] => .ok (.its (zipU xs ys)) S1
  | [.ref i, .ref j] => match S1[i]?, S1[j]? with
    | some (.lst _), some (.lst _) => .ok (.zip2 i j) S1
    | _, _ => .bad
  | _ => .bad
theorem zip_turn {w' : Wd} {S' : Sto} {T : Addr} {x y : V} {a b : U} (s : Sim C w' S') (hT : w'.H T = none) (ra : RV C w' a x) (rb : RV C w' b y) : ∃ w'', w''.H = upd w'.H T (.tup [x, y]) ∧ Le w' w'' ∧ Sim C w'' S' ∧ RV C w'' (.tup [a, b]) (.ref T) := by
  obtain ⟨s2, l2⟩ := s.upd (o := .tup [x, y]) hT
  exact ⟨_, rfl, l2, s2, .tup upd_same (.cons (ra.le l2) (.cons (rb.le l2) .nil))⟩
theorem zipT_src {K : PySem.W.Frag} {xs ys : List U} {v z : V} (r : RV C w (.tup xs) v) (q : RV C w (.tup ys) z) : ∃ a b, v = .ref a ∧ z = .ref b ∧ RSrc C w (.its (zipU xs ys)) (RZ.ItzT K a b) := by
  cases r with
  | tup e1 r1 =>
    cases q with
    | tup e2 r2 =>
      refine ⟨_, _, rfl, rfl, fun w' S' l s us' hu => ?_⟩
      cases hu
      have q1 : SqT K w'.H _ _ := SqT.of (l.tup _ _ e1)
      have q2 : SqT K w'.H _ _ := SqT.of (l.tup _ _ e2)
      have r1 := r1.le l
      have r2 := r2.le l
      refine ⟨fun i u hi => ?_, ⟨_, _, q1, q2, ?_⟩⟩
      · obtain ⟨a, b, ha, hb, rfl⟩ := zipU_get hi
        obtain ⟨x, hx, rx⟩ := r1.get ha
        obtain ⟨y, hy, ry⟩ := r2.get hb
        refine ⟨⟨_, _, x, y, q1, q2, hx, hy⟩, fun v' H' ⟨T, x', y', e, hT, eH, h1, h2⟩ => ?_⟩
        have e3 := h1 _ q1
        have e4 := h2 _ q2
        rw [hx] at e3
        rw [hy] at e4
        cases e3; cases e4
        subst e eH
        exact zip_turn s hT rx ry
      · rw [zipU_len, ← r1.length, ← r2.length]
        omega
theorem zipL_src {K : PySem.W.Frag} {i j : Nat} {v z : V} (r : RV C w (.ref i) v) (q : RV C w (.ref j) z) : ∃ a b, v = .ref a ∧ z = .ref b ∧ RSrc C w (.zip2 i j) (Itz K a b) := by
  cases r with
  | ref hi =>
    cases q with
    | ref hj =>
      refine ⟨_, _, rfl, rfl, fun w' S' l s us' hu => ?_⟩
      unfold srcAt at hu
      simp only at hu
      split at hu
      · rename_i xs ys h1 h2
        cases hu
        obtain ⟨vs, f1, r1⟩ := s.cell _ _ h1
        obtain ⟨zs, f2, r2⟩ := s.cell _ _ h2
        rw [l.rho i hi] at f1
        rw [l.rho j hj] at f2
        have q1 : SqL K w'.H _ _ := SqL.of f1
        have q2 : SqL K w'.H _ _ := SqL.of f2
        refine ⟨fun i u hi => ?_, ⟨_, _, q1, q2, ?_⟩⟩
        · obtain ⟨a, b, ha, hb, rfl⟩ := zipU_get hi
          obtain ⟨x, hx, rx⟩ := r1.get ha
          obtain ⟨y, hy, ry⟩ := r2.get hb
          refine ⟨⟨_, _, x, y, q1, q2, hx, hy⟩, fun v' H' ⟨T, x', y', e, hT, eH, h1, h2⟩ => ?_⟩
          have e3 := h1 _ q1
          have e4 := h2 _ q2
          rw [hx] at e3
          rw [hy] at e4
          cases e3; cases e4
          subst e eH
          exact zip_turn s hT rx ry
        · rw [zipU_len, ← r1.length, ← r2.length]
          omega
      · cases hu
theorem iZip {e e2 : Expr} {ms : EM (List U)} {p tpos : Pos} {elts : List Expr} {kk : Nat} (hm : X.mg "zip" = none) (ha : PA X [e, e2] (tA C W ms)) (hg : Gl X "zip" := by rfl)
    (hs : starEach [e, e2] X.env = (false, eval e X.env) :: starEach [e2] X.env := by rfl) (hpl : (backTo pos (starEach [e2] X.env)).any (·.1) = false := by rfl) :
    PI X (.Tuple elts kk tpos) (.Call (.Name "zip" p) [e, e2] [] pos) (tI C W (msZip ms)) :=
  PI_imp (RZ.pi_zipA hg hm ha hs hpl) fun σ H R ⟨w, env, S, at_, p⟩ => tA_mono (fun xs H1 ⟨w1, us, S1, at1, l1, r1, p1⟩ => by
    split at p1
    · obtain ⟨v, z, rfl, r, q⟩ := r1.two
      obtain ⟨a, b, rfl, rfl, rs⟩ := zipT_src (K := X.K) r q
      cases r with
      | tup e1 _ =>
        cases q with
        | tup e2 _ => exact ⟨a, b, _, _, rfl, .inr ⟨by rw [← at1.h]; exact SqT.of e1, by rw [← at1.h]; exact SqT.of e2, by rw [← at1.h]; exact p1.ok (Le.refl _) at1.s rs⟩⟩
    · obtain ⟨v, z, rfl, r, q⟩ := r1.two
      obtain ⟨a, b, rfl, rfl, rs⟩ := zipL_src (K := X.K) r q
      split at p1
      · rename_i h1 h2
        obtain ⟨vs, f1, _⟩ := at1.s.cell _ _ h1
        obtain ⟨zs, f2, _⟩ := at1.s.cell _ _ h2
        cases r; cases q
        exact ⟨_, _, _, _, rfl, .inl ⟨by rw [← at1.h]; exact SqL.of f1, by rw [← at1.h]; exact SqL.of f2, by rw [← at1.h]; exact p1.ok (Le.refl _) at1.s rs⟩⟩
      · exact p1.elim
    · exact p1.elim) (tA_of at_ p)
end
end OD
end

section
set_option Elab.async false
set_option linter.all false
set_option autoImplicit false
set_option maxRecDepth 100000
set_option maxHeartbeats 4000000
/-! OD13: sorted of tuples of ints, the first one empty; x[::-1] of tuples -/
namespace OD
section
open PySem PySem.W PySem.Calls PyProof.Rows
variable {prog : Program} {w : World} {A : Around} {E : Value → Shared → Prop} {s : Shared}
theorem first_tup {v : Value} {ns : List Int} (t : TS.TupInts s.heap v ns) : ∃ o : Option Value, (ns = [] → o = none) ∧ ∀ (A : Around) (E : Value → Shared → Prop) (Q : Option Value → Shared → Prop), Q o s → wpAny (model prog w) A (firstOfTuple' v) Q E s := by
  obtain ⟨a, xs, rfl, ⟨o, ho, hc, n, hd⟩, hi⟩ := t
  refine ⟨xs[0]?, fun e => ?_, fun A E Q h => ?_⟩
  · subst e
    have q := hi.length
    have : xs.size = 0 := by simpa using q
    exact Array.getElem?_eq_none (by omega)
  · rw [kas_first_eq]
    refine wpAny_bind (Looks.here (show Looks (model prog w) s.heap (typeOf (.ref a)) o.cls from (Looks.ld ho).andThen .now) ?_)
    rw [hc, if_neg (by first | decide | simp)]
    exact wpAny_bind (listItems_at ho hd (wpAny_pure h))
theorem firsts_tup : ∀ (vs : List Value), (∀ v ∈ vs, ∃ ns, TS.TupInts s.heap v ns) → ∃ fs : List (Option Value), fs.length = vs.length ∧ (∀ v r, vs = v :: r → TS.TupInts s.heap v [] → ∃ r', fs = none :: r') ∧
    ∀ (A : Around) (E : Value → Shared → Prop) (Q : List (Option Value) → Shared → Prop), Q fs s → wpAny (model prog w) A (vs.mapM firstOfTuple') Q E s
  | [], _ => ⟨[], rfl, fun _ _ e => (nomatch e), fun A E Q h => by rw [List.mapM_nil]; exact wpAny_pure h⟩
  | v :: vs, h => by
    obtain ⟨ns, hn⟩ := h v List.mem_cons_self
    obtain ⟨o, h1, h2⟩ := first_tup (prog := prog) (w := w) hn
    obtain ⟨fs, h3, _, h4⟩ := firsts_tup vs fun x hx => h x (List.mem_cons_of_mem _ hx)
    refine ⟨o :: fs, by simp [h3], fun v' r e t => ?_, fun A E Q q => ?_⟩
    · cases e
      have e2 : ns = [] := by rw [← hn.ints]; exact t.ints
      exact ⟨fs, by rw [h1 e2]⟩
    · rw [List.mapM_cons]
      exact wpAny_bind (h2 _ _ _ (wpAny_bind (h4 _ _ (fun bs s' => wpAny (model prog w) A (pure (o :: bs)) Q E s') (wpAny_pure q))))
theorem kind_tup {v : Value} {vs : List Value} {Q : SortKind → Shared → Prop} (h0 : TS.TupInts s.heap v []) (hv : ∀ u ∈ v :: vs, ∃ ns, TS.TupInts s.heap u ns) (h : Q oneType' s) : wpAny (model prog w) A (keyKind' (v :: vs).toArray) Q E s := by
  obtain ⟨fs, hl, hf, hq⟩ := firsts_tup (prog := prog) (w := w) (v :: vs) hv
  obtain ⟨r, rfl⟩ := hf v vs rfl h0
  have hty : ∀ u ∈ v :: vs, Looks (model prog w) s.heap (typeOf u) (.type "tuple") := fun u hu => by
    obtain ⟨ns, a, xs, rfl, ⟨o, ho, hc, n, hd⟩, hi⟩ := hv u hu
    rw [← hc]
    exact (Looks.ld ho).andThen .now
  rw [kat_kind_eq, List.mapM_toArray, map_eq_pure_bind]
  refine wpAny_bind (wpAny_bind (hq _ _ _ (wpAny_pure ?_)))
  have hall : ¬ (((none :: r).toArray.all fun x : Option Value => x.isSome) = true) := by simp
  rw [if_neg hall]
  have h1 : ¬ ((((none :: r).toArray[0]? : Option (Option Value)).bind id).isSome = true) := by simp
  rw [if_neg h1]
  rw [oneTypeOnly'_eq, List.mapM_toArray, map_eq_pure_bind]
  refine wpAny_bind (wpAny_bind (wpAny_bind (kas_mapM (r := Value.type "tuple") _ (fun u hu Q' hq => (hty u hu).here hq) (wpAny_pure ?_))))
  have hall2 : ((List.map (fun _ => Value.type "tuple") (v :: vs)).toArray.all fun x => x == Value.type "tuple") = true := by
    simp only [List.all_toArray, List.all_map, List.all_eq_true]
    intro _ _
    rfl
  have h2 : (List.map (fun _ => Value.type "tuple") (v :: vs)).toArray[0]? = some (Value.type "tuple") := by simp
  rw [h2]
  simp only [hall2, if_true]
  exact wpAny_pure (wpAny_pure h)
theorem lt_tup {v u : Value} {ns ms : List Int} {Q : Bool → Shared → Prop} (hu : A.units < cLine) (hv : TS.TupInts s.heap v ns) (hw : TS.TupInts s.heap u ms) (h : Q (HT.lexLt ns ms) s) : wpAny (model prog w) A (keyLt' oneType' v u) Q E s := by
  obtain ⟨a, xs, rfl, ⟨⟨cls, dd, data, sl⟩, ho, hc, n, hd⟩, hi⟩ := hv
  obtain ⟨b, ys, rfl, ⟨⟨cls2, dd2, data2, sl2⟩, ho2, hc2, n2, hd2⟩, hi2⟩ := hw
  simp only at hc hd hc2 hd2
  subst hc hd hc2 hd2
  rw [keyLt'_oneType, oneLt'_eq]
  simp only [if_true]
  refine wpAny_bind (wpAny_cRoomFor hu ?_)
  refine wpAny_bind (wpAny_callSpecialIfBound?_slot ⟨_, ho, rfl⟩ PySem.F.slot_tuple_lt (call_meets PySem.F.slot_tuple_lt ⟨_, ho, rfl⟩ PySem.F.entry_tuple_lt (PySem.F.args_tuple_lt_2 _ _)
    (HT.tuple_lt_ints a b xs ys n n2 dd dd2 sl sl2 ns ms hi hi2) ⟨ho, ho2, ?_⟩))
  exact wpAny_truthy_bool h
theorem tup_sortable {a : Addr} {vs : List Value} {k : Value → List Int} (hu : A.units < cLine) (h0 : ∃ v r, vs = v :: r ∧ k v = []) (hv : ∀ u ∈ vs, TS.TupInts s.heap u (k u)) (ha : ∀ o, s.heap.get? a = some o → o.cls ≠ .type "tuple") :
    SrtO.SortableO prog w A s a vs fun p q => HT.lexLt (k p) (k q) := by
  intro h' keep
  have kp : ∀ b o, s.heap.get? b = some o → o.cls = .type "tuple" → h'.get? b = some o := fun b o e c => keep b o (fun z => by subst z; exact ha o e c) e
  have hv' : ∀ u ∈ vs, TS.TupInts h' u (k u) := fun u hm => (hv u hm).keeps kp
  obtain ⟨v, r, rfl, e0⟩ := h0
  refine ⟨oneType', fun Q E hq => kind_tup (s := { s with heap := h' }) (by rw [← e0]; exact hv' v List.mem_cons_self) (fun u hm => ⟨_, hv' u hm⟩) hq, ?_⟩
  intro p q hp hq
  exact lt_tup (s := { s with heap := h' }) (Q := fun r s' => s' = { s with heap := h' } ∧ r = _) (E := fun _ _ => False) hu (hv' p.1 hp) (hv' q.1 hq) ⟨rfl, rfl⟩
end
open PySem L2
/-! ### the sorted list is the one there is -/
def insK (x : List Int) : List (List Int) → List (List Int)
  | [] => [x]
  | y :: r => if HT.lexLt x y then x :: y :: r else y :: insK x r
def sortK : List (List Int) → List (List Int)
  | [] => []
  | x :: r => insK x (sortK r)
theorem insK_perm (x : List Int) : ∀ l, (insK x l).Perm (x :: l)
  | [] => .refl _
  | y :: r => by
    unfold insK
    split
    · exact .refl _
    · exact ((insK_perm x r).cons y).trans (.swap _ _ _)
theorem sortK_perm : ∀ l, (sortK l).Perm l
  | [] => .refl _
  | x :: r => (insK_perm x _).trans ((sortK_perm r).cons x)
abbrev SrtK (l : List (List Int)) : Prop := l.Pairwise fun x y => HT.lexLt y x = false
theorem insK_srt (x : List Int) : ∀ l, SrtK l → SrtK (insK x l)
  | [], _ => by simp [insK, SrtK]
  | y :: r, h => by
    unfold insK
    have hp := List.pairwise_cons.mp h
    split
    · rename_i hlt
      refine List.pairwise_cons.mpr ⟨fun z hz => ?_, h⟩
      rcases List.mem_cons.mp hz with e | hz
      · subst e; exact NtL.lex_asym _ _ hlt
      · exact NtL.lex_tr x y z (NtL.lex_asym _ _ hlt) (hp.1 z hz)
    · rename_i hlt
      refine List.pairwise_cons.mpr ⟨fun z hz => ?_, insK_srt x r hp.2⟩
      rcases List.mem_cons.mp ((insK_perm x r).mem_iff.mp hz) with e | hz
      · subst e; simpa using hlt
      · exact hp.1 z hz
theorem sortK_srt : ∀ l, SrtK (sortK l)
  | [] => List.Pairwise.nil
  | x :: r => insK_srt x _ (sortK_srt r)
theorem lex_eq : ∀ xs ys : List Int, HT.lexLt xs ys = false → HT.lexLt ys xs = false → xs = ys
  | [], [], _, _ => rfl
  | [], y :: ys, h, _ => by rw [HT.lexLt_nil_cons] at h; cases h
  | x :: xs, [], _, h => by rw [HT.lexLt_nil_cons] at h; cases h
  | x :: xs, y :: ys, h1, h2 => by
    rw [HT.lexLt_cons] at h1 h2
    by_cases e : x = y
    · subst e
      rw [if_pos rfl] at h1 h2
      rw [lex_eq xs ys h1 h2]
    · rw [if_neg e] at h1
      rw [if_neg (Ne.symm e)] at h2
      have a := of_decide_eq_false h1
      have b := of_decide_eq_false h2
      omega
theorem srt_unique : ∀ {l m : List (List Int)}, l.Perm m → SrtK l → SrtK m → l = m
  | [], m, p, _, _ => (List.nil_perm.mp p).symm
  | x :: l, [], p, _, _ => absurd (List.perm_nil.mp p) (by simp)
  | x :: l, y :: m, p, h1, h2 => by
    have a1 := List.pairwise_cons.mp h1
    have a2 := List.pairwise_cons.mp h2
    have e : x = y := by
      have m1 : x ∈ y :: m := p.mem_iff.mp List.mem_cons_self
      have m2 : y ∈ x :: l := p.mem_iff.mpr List.mem_cons_self
      rcases List.mem_cons.mp m1 with e | m1
      · exact e
      · rcases List.mem_cons.mp m2 with e | m2
        · exact e.symm
        · exact lex_eq _ _ (a2.1 x m1) (a1.1 y m2) |>.symm ▸ rfl
    subst e
    rw [srt_unique (List.Perm.cons_inv p) a1.2 a2.2]
section
variable {X : Cx} {C : Ct} {W : WX} {pos : Pos} {w w1 : Wd} {S : Sto} {σ : St} {H : Hp} {env : Env} {D : Ends}
def tupK : U → Option (List Int)
  | .tup us => intsOf us
  | _ => none
def tupsK : List U → Option (List (List Int))
  | [] => some []
  | u :: us => match tupK u, tupsK us with
    | some k, some ks => some (k :: ks)
    | _, _ => none
def kTup (k : List Int) : U := .tup (k.map U.int)
def fSort (us : List U) (S : Sto) : Option (U × Sto) := match us with
  | [.ref j] => match S[j]? with
    | some (.lst xs) => match tupsK xs with
      | some ([] :: ks) => some (.ref S.length, S ++ [.lst ((sortK ([] :: ks)).map kTup)])
      | _ => none
    | _ => none
  | _ => none
theorem intsOf_eq : ∀ {us : List U} {ns : List Int}, intsOf us = some ns → us = ns.map U.int
  | [], ns, h => by simp only [intsOf] at h; cases h; rfl
  | u :: us, ns, h => by
    cases u with
    | int i =>
      simp only [intsOf] at h
      cases q : intsOf us with
      | none => rw [q] at h; cases h
      | some ms => rw [q] at h; cases h; rw [intsOf_eq q]; rfl
    | _ => simp only [intsOf] at h; cases h
theorem tupK_eq {u : U} {k : List Int} (h : tupK u = some k) : u = kTup k := by
  cases u with
  | tup us => unfold kTup; rw [← intsOf_eq (show intsOf us = some k from h)]
  | _ => cases h
theorem tupsK_eq : ∀ {us : List U} {ks : List (List Int)}, tupsK us = some ks → us = ks.map kTup
  | [], ks, h => by simp only [tupsK] at h; cases h; rfl
  | u :: us, ks, h => by
    simp only [tupsK] at h
    cases q : tupK u with
    | none => rw [q] at h; cases h
    | some k =>
      cases q2 : tupsK us with
      | none => rw [q, q2] at h; cases h
      | some ks' => rw [q, q2] at h; cases h; rw [tupsK_eq q2, tupK_eq q]; rfl
theorem kTup_raw {pins : List (Addr × Obj)} {s : Shared} {k : List Int} {v : V} (I : L2.Inv X pins σ w.H s) (r : RV C w (kTup k) v) : ∃ t, v = .ref t ∧ w.H t = some (.tup (k.map V.int)) ∧ TS.TupInts s.heap (.ref t) k := by
  unfold kTup at r
  cases r with
  | tup e r =>
    rename_i t vs
    have e2 : vs = k.map V.int := by
      have q := intsOf_ok r (ns := k) (by
        clear r
        induction k with
        | nil => rfl
        | cons x k ih => simp only [List.map_cons, intsOf, ih] <;> rfl)
      exact q
    subst e2
    exact ⟨t, rfl, e, L2.tupI_raw I (SqT.of e)⟩

theorem raws {pins : List (Addr × Obj)} {s : Shared} (I : L2.Inv X pins σ w.H s) : ∀ {ks : List (List Int)} {vs : List V} {its : List Value}, RVs C w (ks.map kTup) vs → Vals vs its →
    its.map (TS.intsOf s.heap) = ks ∧ ∀ u ∈ its, TS.TupInts s.heap u (TS.intsOf s.heap u) ∧ RV C w (kTup (TS.intsOf s.heap u)) (bkV u) ∧ RelV (bkV u) u
  | [], vs, its, r, t => by
    cases r
    cases t
    exact ⟨rfl, fun u hu => absurd hu (by simp)⟩
  | k :: ks, vs, its, r, t => by
    rw [List.map_cons] at r
    cases r with
    | cons r1 r2 =>
      cases t with
      | cons t1 t2 =>
        obtain ⟨a, rfl, e, ti⟩ := kTup_raw I r1
        cases t1
        obtain ⟨h1, h2⟩ := raws I r2 t2
        have e1 : TS.intsOf s.heap (.ref a) = k := ti.ints
        refine ⟨by rw [List.map_cons, h1, e1], fun u hu => ?_⟩
        rcases List.mem_cons.mp hu with e | hu
        · subst e
          rw [e1]
          exact ⟨ti, r1, rfl⟩
        · exact h2 u hu
theorem RVs.ofMap {f : Value → U} {g : Value → V} : ∀ {l : List Value}, (∀ u ∈ l, RV C w (f u) (g u)) → RVs C w (l.map f) (l.map g)
  | [], _ => .nil
  | u :: l, h => .cons (h u List.mem_cons_self) (RVs.ofMap fun x hx => h x (List.mem_cons_of_mem _ hx))
theorem Vals.ofMap {g : Value → V} : ∀ {l : List Value}, (∀ u ∈ l, RelV (g u) u) → Vals (l.map g) l
  | [], _ => .nil
  | u :: l, h => .cons (h u List.mem_cons_self) (Vals.ofMap fun x hx => h x (List.mem_cons_of_mem _ hx))
theorem cSort (hu : X.A.units + 2 < cLine) : CallR X (.builtin "sorted") (rN C fSort) := by
  intro pins s σ H xs us Q I rv ⟨w, zs, S, e, sm, rz, p⟩
  subst e
  unfold fSort at p
  split at p
  · rename_i j
    obtain ⟨v, rfl, r⟩ := rz.one
    obtain ⟨u, rfl, ru⟩ := vals1 rv
    split at p
    · rename_i xs e1
      split at p
      · rename_i ks hk
        obtain ⟨vs, e2, r1⟩ := sm.cell _ _ e1
        cases r
        obtain rfl : u = Value.ref (w.rho j) := ru
        rw [tupsK_eq hk] at r1
        obtain ⟨its, rv2, hl, hz⟩ := I.list (SqL.of e2)
        obtain ⟨m1, m2⟩ := raws I r1 rv2
        refine SrtO.sorted_ord (ltv := fun p q => HT.lexLt (TS.intsOf s.heap p) (TS.intsOf s.heap q)) (NtL.swo_lexL _) hl.isList (by rw [← rv2.length]; exact hz) (fun h2 h₁ a h1 h3 => ?_) fun out h1 h2 => ?_
        · refine tup_sortable (s := { s with heap := h₁ }) (k := TS.intsOf s.heap) (by show X.A.units + 1 + 1 < cLine; omega) ?_ (fun u hm => (m2 u hm).1.keeps fun b o e _ => (h3 b o e).2) (fun o ho => ?_)
          · cases its with
            | nil => simp at h2
            | cons v0 r0 =>
              rw [List.map_cons] at m1
              injection m1 with m1 _
              exact ⟨v0, r0, rfl, m1⟩
          · rw [h1] at ho
            cases ho
            exact fun q => absurd (Value.type.inj (show Value.type "list" = Value.type "tuple" from q)) (by decide)
        · obtain ⟨ep, he'⟩ := PyProof.Rows.sortedAll_at s.heap its out.toArray
          have hp := h2.perm
          have h3 : ∀ u ∈ out, TS.TupInts s.heap u (TS.intsOf s.heap u) ∧ RV C w (kTup (TS.intsOf s.heap u)) (bkV u) ∧ RelV (bkV u) u := fun u hu => m2 u (hp.mem_iff.mp hu)
          have hlen : (out.map bkV).length ≤ sizeLine := by
            rw [List.length_map, hp.length_eq, ← rv2.length]
            exact hz
          have ek : out.map (TS.intsOf s.heap) = sortK ([] :: ks) := by
            refine srt_unique ?_ ?_ (sortK_srt _)
            · have q := hp.map (TS.intsOf s.heap)
              rw [m1] at q
              exact q.trans (sortK_perm _).symm
            · exact List.pairwise_map.mpr h1
          obtain ⟨s2, l2⟩ := sm.new (a := s.heap.objs.size + 1) (o := .lst (out.map bkV)) (c := .lst ((sortK ([] :: ks)).map kTup)) (I.hok.fresh (Nat.le_succ _)) fun w' l e => ⟨_, by rw [e]; exact upd_same, by
            rw [← ek, List.map_map]
            exact RVs.ofMap (f := kTup ∘ TS.intsOf s.heap) fun u hu => ((h3 u hu).2.1).le l⟩
          exact ⟨.ref (s.heap.objs.size + 1), upd w.H (s.heap.objs.size + 1) (.lst (out.map bkV)), I.laid (t' := s.toks) (fun _ _ => PyProof.Rows.sortedAll_old) (Nat.le_succ _) ⟨hlen, out, ep, Vals.ofMap fun u hu => (h3 u hu).2.2, he'⟩, rfl, p.go rfl l2 s2 (new_ref sm)⟩
      · exact p.elim
    · exact p.elim
  · exact p.elim
end
end OD
end

section
set_option Elab.async false
set_option linter.all false
set_option autoImplicit false
set_option maxRecDepth 100000
set_option maxHeartbeats 4000000
/-! OD14: x[::-1] of tuples -/
namespace OD
section
open PySem PySem.Spec PyProof.Rows HT
variable {prog : Program} {w : World} {A : Around} {E : Value → Shared → Prop} {s : Shared}
theorem sliceApplied_rev {sl : Addr} {t : Tok} {n : Nat} {Q : Int × Int × Nat → Shared → Prop} (hs : s.heap.IsSliceOf sl .none .none (.int (-1) t))
    (h : Q ((n : Int) - 1, -1, n) s) : wpAny (model prog w) A (Builtin.Slice.sliceApplied (.ref sl) (pure (n : Int))) Q E s := by
  obtain ⟨os, hos, hcs, hds⟩ := id hs
  unfold Builtin.Slice.sliceApplied Builtin.Slice.sliceFields
  refine wpAny_bind (wpAny_bind (wpAny_field hos hds (x := .none) rfl (wpAny_bind (wpAny_field hos hds (x := .none) rfl (wpAny_bind (wpAny_field hos hds (x := .int (-1) t) rfl (wpAny_pure ?_)))))))
  refine wpAny_bind (slicePart_int ?_)
  show wpAny _ _ (if ((-1 : Int) == 0) = true then _ else _) _ _ s
  rw [if_neg (by decide)]
  refine wpAny_bind (slicePart_none (wpAny_bind (slicePart_none (wpAny_bind (wpAny_pure ?_)))))
  show wpAny _ _ (pure ((n : Int) - 1, (-1 : Int), Builtin.Slice.slicePlaces ((n : Int) - 1) (-1) (-1))) _ _ s
  have e : Builtin.Slice.slicePlaces ((n : Int) - 1) (-1) (-1) = n := by
    unfold Builtin.Slice.slicePlaces
    have h1 : ¬ ((-1 : Int) > 0) := by omega
    simp only [h1, if_false]
    rw [show (- -1 : Int) = 1 by decide, Int.ediv_one]
    split <;> omega
  rw [e]
  exact wpAny_pure h
theorem pick_rev (xs : Array Value) : ((List.range xs.size).filterMap fun (k : Nat) => xs[((xs.size : Int) - 1 + (k : Int) * (-1)).toNat]?).toArray = xs.toList.reverse.toArray := by
  have e : (List.range xs.size).filterMap (fun (k : Nat) => xs[((xs.size : Int) - 1 + (k : Int) * (-1)).toNat]?) = ((List.range xs.size).map fun k => xs.size - 1 - k).filterMap fun i => xs[i]? := by
    rw [List.filterMap_map]
    congr 1
    funext k
    have : ((xs.size : Int) - 1 + (k : Int) * (-1)).toNat = xs.size - 1 - k := by omega
    show xs[_]? = xs[xs.size - 1 - k]?
    rw [this]
  rw [e, PySem.W.krv_range, List.filterMap_reverse, PySem.W.krv_all]
theorem getItem_tuple_rev {t sl : Addr} {items : Array Value} {tk : Tok} {Q : Value → Shared → Prop} (ht : IsTup s.heap t items) (hs : s.heap.IsSliceOf sl .none .none (.int (-1) tk))
    (h : Q (.ref s.heap.objs.size) { s with heap := s.heap.push { cls := .type "tuple", data := .seq items.toList.reverse.toArray } })
    (hsz : items.size ≤ sizeLine) : wpAny (model prog w) A (getItem (.ref t) (.ref sl)) Q E s := by
  have htake : sizeOk (.seq items.toList.reverse.toArray) := by
    show items.toList.reverse.toArray.size ≤ sizeLine
    rw [List.size_toArray, List.length_reverse, Array.length_toList]
    exact hsz
  obtain ⟨os, hos, hcs, hds⟩ := id hs
  have hTs : s.TypeIs (.ref sl) "slice" := ⟨os, hos, hcs⟩
  unfold getItem
  try with_reducible refine wpAny_holding ?_
  first | refine wpAny_bind (wpAny_pure ?_) | skip
  refine wpAny_bind (wpAny_sequenceKey ht.typeIs (by decide) ?_)
  refine wpAny_bind (wpAny_callSpecial?_slot (name := Str.ofString "__getitem__") ht.typeIs PyProof.Rows.slot_tuple_getitem
    (wpAny_call_entry PyProof.Rows.slot_tuple_getitem ht.typeIs entry_tuple_getitem ?_ (args_tuple_getitem _ _)))
  show wpAny _ _ (Builtin.Tuple.tupleItemsOf (.ref t) >>= _) _ _ s
  refine wpAny_bind (tupleItemsOf_ ht ?_)
  refine wpAny_bind (wpAny_typeOf hTs ?_)
  rw [if_pos (by decide)]
  refine wpAny_bind (sliceApplied_rev hs ?_)
  have hno : ¬ ((((items.size : Int) - 1 == 0) && ((-1 : Int) == 1) && items.size == items.size) = true) := by
    rw [show ((-1 : Int) == 1) = false by decide, Bool.and_false, Bool.false_and]
    exact Bool.false_ne_true
  show wpAny _ _ (if (((items.size : Int) - 1 == 0) && ((-1 : Int) == 1) && items.size == items.size) = true then _ else _) _ _ s
  rw [if_neg hno, pick_rev]
  first
    | exact wpAny_bind (m := Builtin.Tuple.tupleExact _) (wpAny_newObj_type (wpAny_pure ⟨_, rfl, wpAny_pure h⟩) htake)
    | exact wpAny_bind (m := Builtin.Tuple.tupleExact _) (wpAny_newObj_type (wpAny_bind (wpAny_pure (wpAny_pure ⟨_, rfl, wpAny_pure h⟩))) htake)
    | exact wpAny_bind (wpAny_bind (m := Builtin.Tuple.tupleExact _) (wpAny_newObj_type (wpAny_pure (wpAny_pure ⟨_, rfl, wpAny_pure h⟩)) htake))
    | exact wpAny_bind (wpAny_bind (m := Builtin.Tuple.tupleExact _) (wpAny_newObj_type (wpAny_pure ⟨_, rfl, wpAny_pure h⟩) htake))
end
end OD
namespace L2
section
open PySem PySem.Spec PyProof.Rows
def tRevTo (K : PySem.W.Frag) (te : TE) : TE := fun σ H Q => te σ H fun x H1 => ∃ a xs, x = .ref a ∧ SqT K H1 a xs ∧ ∀ p, H1 p = none → Q (.ref p) (upd H1 p (.tup xs.reverse))
theorem pe_revTo {X : Cx} {e : Expr} {te : TE} {k : Nat} {p1 p2 p3 pos : Pos} (he : PE X e te) : PE X (.Subscript e (.Slice none none (some (.UnaryOp .USub (.Constant (.int 1) k p1) p2)) p3) pos) (tRevTo X.K te) := by
  refine ⟨fun pins s σ H Q I h => ?_⟩
  refine Subscript_ (thn (he.run pins s σ H _ I h) fun v s1 ⟨x, H1, I1, r1, q1⟩ => ?_)
  obtain ⟨a, xs, ex, hx, q⟩ := q1
  subst ex
  cases r1
  have hst : PO X (some (.UnaryOp .USub (.Constant (.int 1) k p1) p2)) (tPart (tUn (rU fun i => .int (-i)) (tC (.int 1)))) := po_some (pe_un un_neg pe_int)
  refine wpAny_Slice (thn (po_none.run pins s1 σ H1 (fun o H2 => o = none ∧ H2 = H1) I1 ⟨rfl, rfl⟩) fun vl s2 ⟨l, H2, I2, pl, el, e2⟩ => ?_)
  subst el e2
  refine thn (po_none.run pins s2 σ H2 (fun o H3 => o = none ∧ H3 = H2) I2 ⟨rfl, rfl⟩) fun vu s3 ⟨u, H3, I3, pu, eu, e3⟩ => ?_
  subst eu e3
  refine thn (hst.run pins s3 σ H3 (fun o H4 => o = some (-1) ∧ H4 = H3) I3 ⟨1, rfl, -1, rfl, rfl, rfl⟩) fun vs s4 ⟨o, H4, I4, ps, eo, e4⟩ => ?_
  subst eo e4
  have I5 : L2.Inv X pins σ H4 { s4 with heap := s4.heap.push { cls := .type "slice", data := .fields #[vl, vu, vs] } } := I4.kept (t' := s4.toks) fun b ob q => Heap.get?_push_of_some _ q
  obtain ⟨its, r, ht, hz⟩ := I5.tuple hx
  have hlen := r.length
  cases pl
  cases pu
  cases ps
  show wpAny (model X.prog X.w) X.A (subscriptTail e (.Slice none none (some (.UnaryOp .USub (.Constant (.int 1) k p1) p2)) p3) (.ref a) (.ref s4.heap.objs.size)) (EP X pins σ Q) X.xe _
  refine tail_any (ops := [.ref a, .ref s4.heap.objs.size]) ht.typeIs (PyProof.Rows.slot_tuple_getitem.lookup) ?_ (by with_unfolding_all rfl)
  refine OD.getItem_tuple_rev ht (Heap.IsSliceOf.new _ _ _ _) ?_ (by rw [List.size_toArray]; omega)
  refine ⟨.ref _, _, I5.laid (t' := s4.toks) (o := .tup xs.reverse) (fun b ob q => Heap.get?_push_of_some _ q) (Nat.le_refl _) ?_, rfl, q _ (I5.hok.fresh (Nat.le_refl _))⟩
  exact ⟨by rw [List.length_reverse]; exact hz, _, r.reverse, IsTup.new _ _⟩
end
end L2
namespace OD
open PySem L2
section
variable {X : Cx} {C : Ct} {W : WX} {pos : Pos} {w w1 : Wd} {S : Sto} {σ : St} {H : Hp} {env : Env} {D : Ends}
theorem RVs.rev : ∀ {us : List U} {vs : List V}, RVs C w us vs → RVs C w us.reverse vs.reverse
  | _, _, .nil => .nil
  | _, _, .cons r t => by
    rw [List.reverse_cons, List.reverse_cons]
    exact (RVs.rev t).append (.cons r .nil)
def fRevT (u : U) (S : Sto) : Option (U × Sto) := match u with
  | .tup us => some (.tup us.reverse, S)
  | _ => none
theorem eRevT {e : Expr} {m : EM U} {k : Nat} {p1 p2 p3 : Pos} (he : PE X e (tE C W m)) : PE X (.Subscript e (.Slice none none (some (.UnaryOp .USub (.Constant (.int 1) k p1) p2)) p3) pos) (tE C W (mUn fRevT m)) :=
  PE_imp (pe_revTo he) fun σ H Q ⟨w, env, S, at_, p⟩ => tE_mono (fun x H1 ⟨w1, u, S1, at1, l1, r1, p1⟩ => by
    cases u with
    | tup us =>
      have p2 := PsO_of p1
      obtain ⟨a, vs, rfl, e1, r⟩ : ∃ a vs, x = .ref a ∧ w1.H a = some (.tup vs) ∧ RVs C w1 us vs := by
        cases r1 with
        | tup e1 r => exact ⟨_, _, rfl, e1, r⟩
      · refine ⟨a, vs, rfl, by rw [← at1.h]; exact SqT.of e1, fun q hq => ?_⟩
        rw [← at1.h] at hq ⊢
        obtain ⟨s2, l2⟩ := at1.s.upd (o := .tup vs.reverse) hq
        exact p2.go rfl l2 s2 (.tup upd_same (r.rev.le l2))
    | _ => exact (PsO_of p1).elim) (tE_of at_ p)
end
end OD
end

section
set_option Elab.async false
set_option linter.all false
set_option autoImplicit false
set_option maxRecDepth 100000
set_option maxHeartbeats 4000000
/-! OD15: defs as the head tells them, the law's end -/
namespace OD
open PySem L2
section
variable {P : Program} {W0 : World} {mg : Str → Option Value} {base : Heap} {C : Ct}
abbrev FdD (C : Ct) (i : Nat) (x qual : Str) (st : Stmt) : Prop := ∃ fd, FunD C.K x qual (defArgs st) (defBody st) (defScope st) [] [] (C.adr i) fd
abbrev BindsD (x qual : Str) (st : Stmt) (ps : List Str) : Prop := ∀ (kV doc pm : Value) (an : Option Addr) (cdv ct : Value) (us : List Value), us.length = ps.length → bindArgs (PySem.W.fnOf x qual (defArgs st) (defBody st) (defScope st) .none kV doc pm an cdv ct) ⟨us, []⟩ = pure (ps.zip us)
theorem fun_ofD {x qual : Str} {st : Stmt} {i : Nat} {fd : FuncData} (F : FunD C.K x qual (defArgs st) (defBody st) (defScope st) [] [] (C.adr i) fd) : L2.Fun C.K x qual st (C.adr i) fd := by
  obtain ⟨oc, od, dV, kV, doc, pm, an, cdv, ct, osl, rfl, lk, hcd, hD, hK⟩ := F.ex
  rcases hD with ⟨_, rfl⟩ | ⟨e, _⟩
  · exact ⟨⟨oc, od, kV, doc, pm, an, cdv, ct, osl, rfl, lk, hcd⟩, F.kp⟩
  · exact absurd rfl e
/-- what a body's proof is given -/
abbrev BodyD (P : Program) (W0 : World) (mg : Str → Option Value) (base : Heap) (C : Ct) (N : List Str) (qual : Str) (st : Stmt) (i k : Nat) (cdv : Value) (m : SM) : Prop :=
  ∀ (A : Around) (outer : List PySem.Env) (s : Shared) (H : Hp) (E : XK), Room k (cxD P W0 mg base C N qual st i cdv A outer s H E).A → Takes (cxD P W0 mg base C N qual st i cdv A outer s H E) (fun cls d _ H' => E cls d H') →
    PassesOwn (model P W0) (cxD P W0 mg base C N qual st i cdv A outer s H E).A (cxD P W0 mg base C N qual st i cdv A outer s H E).env (cxD P W0 mg base C N qual st i cdv A outer s H E).xe →
    PSs (cxD P W0 mg base C N qual st i cdv A outer s H E) (defBody st) (tS C (fun cls d _ H' => E cls d H') m)
theorem fnok_of {x qual : Str} {st : Stmt} {fd : FuncData} {N ps : List Str} {i k : Nat} {m : SM} (F : L2.Fun C.K x qual st (C.adr i) fd) (Sc : FnScope N ps (defScope st))
    (hbody : ∀ cdv, (∃ oc od fd' osl, C.K.lookup (C.adr i) = some ⟨oc, od, .func fd', osl⟩ ∧ fd'.code = cdv) → PySem.W.codeIn C.K cdv qual = true → BodyD P W0 mg base C N qual st i k cdv m) :
    FnOk P W0 C.K mg base (L2.CX P W0) (k + 1) (C.adr i) fd ps (spI C ps.length (fnD N.length m)) := by
  obtain ⟨oc, od, kV, doc, pm, an, cdv, ct, osl, rfl, lk, hcd⟩ := F.ex
  refine fn_of lk hcd Sc (fun vs H Q E ⟨w, us, S, _, _, r, l, _⟩ => by rw [← r.length]; exact l) fun A outer s H vs Q E hr ⟨w, us, S, hH, sm, r, l, p⟩ => ?_
  refine ⟨_, hbody cdv ⟨_, _, _, _, lk, rfl⟩ hcd A outer s H E hr (takes_of rfl rfl rfl rfl) (passes_of rfl), w, us.map some ++ List.replicate (N.length - us.length) none, S, ⟨hH, ?_, sm⟩, ?_⟩
  · show EnvR C w _ (vs.map some ++ List.replicate (N.length - vs.length) none)
    rw [r.length]
    exact (EnvR.args r).append (EnvR.blank _)
  · unfold fnD at p
    cases e : m (us.map some ++ List.replicate (N.length - us.length) none) S with
    | nx e' S' => rw [e] at p; exact fun w' σ l s _ => p w' .non l s .non
    | rt u S' => rw [e] at p; exact p
    | ex c f e' S' => rw [e] at p; exact fun w' σ d l s _ x => p w' d l s x
    | bk e' S' => rw [e] at p; exact p.elim
    | ct e' S' => rw [e] at p; exact p.elim
    | bad => rw [e] at p; exact p.elim
theorem fi_ofD {x qual : Str} {st : Stmt} {N ps : List Str} {i k : Nat} {m : SM} (F : FdD C i x qual st) (Sc : FnScope N ps (defScope st)) (b : BindsD x qual st ps) (hbody : ∀ cdv, BodyD P W0 mg base C N qual st i k cdv m) :
    Fi P W0 mg base C (k + 1) i ps.length (fnD N.length m) := by
  obtain ⟨fd, F⟩ := F
  exact ⟨⟨fd, ps, fnok_of (fun_ofD F) Sc fun cdv _ _ => hbody cdv, F.bindsN b⟩, F.kp⟩
/-- of a def that makes lambdas: its code object is known -/
theorem fi_ofL {x qual : Str} {st : Stmt} {N ps : List Str} {i k : Nat} {m : SM} {c : Addr} (F : FdD C i x qual st) (hc : ∀ oc od fd osl, C.K.lookup (C.adr i) = some ⟨oc, od, .func fd, osl⟩ → PySem.W.codeIn C.K fd.code qual = true → fd.code = .ref c) (Sc : FnScope N ps (defScope st)) (b : BindsD x qual st ps)
    (hbody : BodyD P W0 mg base C N qual st i k (.ref c) m) : Fi P W0 mg base C (k + 1) i ps.length (fnD N.length m) := by
  obtain ⟨fd, F⟩ := F
  refine ⟨⟨fd, ps, fnok_of (fun_ofD F) Sc fun cdv ⟨oc, od, fd', osl, lk, e⟩ hcd => ?_, F.bindsN b⟩, F.kp⟩
  have e2 := hc oc od fd' osl lk (by rw [e]; exact hcd)
  rw [e] at e2
  subst e2
  exact hbody
/-- no call goes so deep -/
theorem fi_zero {x qual : Str} {st : Stmt} {N ps : List Str} {i k : Nat} (F : FdD C i x qual st) (Sc : FnScope N ps (defScope st)) (b : BindsD x qual st ps) : Fi P W0 mg base C (k + 1) i ps.length (fnD N.length sBadM) :=
  fi_ofD F Sc b fun cdv A outer s H E hr tk po => ssBad
end
theorem Room.u65 {k : Nat} {A : Around} (r : Room k A) : A.units + 65 < cLine := by have := r.un; omega
theorem Room.u1 {k : Nat} {A : Around} (r : Room k A) : A.units + 1 < cLine := by have := r.un; omega
theorem Room.u2 {k : Nat} {A : Around} (r : Room k A) : A.units + 2 < cLine := by have := r.un; omega
theorem Room.pred {k : Nat} {A : Around} (r : Room k A) (h : 1 ≤ k) : Room (k - 1 + 1) A := r.mono (by omega)
/-! ### the text's own by names -/
def fldOf (fs : List Str) (j : Nat) : Str := match fs[j]? with
  | some x => x
  | none => toS (List.replicate (j + 1000) 35)
def fldsOk (fs : List Str) : Bool := decide fs.Nodup && fs.all fun x => decide (x.length < 1000)
theorem fldOf_inj {fs : List Str} (h : fldsOk fs = true) (f : Nat) : ∀ j, fldOf fs j = fldOf fs f → j = f := fun j e => by
  unfold fldsOk at h
  simp only [Bool.and_eq_true, decide_eq_true_eq, List.all_eq_true] at h
  obtain ⟨nd, hl⟩ := h
  have big : ∀ n : Nat, (toS (List.replicate (n + 1000) 35)).length = n + 1000 := fun n => by rw [toS_len, List.length_replicate]
  have h1 : ∀ n, fs[n]? = none → fldOf fs n = toS (List.replicate (n + 1000) 35) := fun n q => by unfold fldOf; rw [q]
  have h2 : ∀ n x, fs[n]? = some x → fldOf fs n = x := fun n x q => by unfold fldOf; rw [q]
  cases hj : fs[j]? with
  | none =>
    cases hf : fs[f]? with
    | none =>
      rw [h1 _ hj, h1 _ hf] at e
      have q := congrArg Str.length e
      rw [big, big] at q
      omega
    | some x =>
      rw [h1 _ hj, h2 _ _ hf] at e
      have q := hl x (List.mem_of_getElem? hf)
      have z := congrArg Str.length e
      rw [big] at z
      omega
  | some y =>
    cases hf : fs[f]? with
    | none =>
      rw [h2 _ _ hj, h1 _ hf] at e
      have q := hl y (List.mem_of_getElem? hj)
      have z := congrArg Str.length e
      rw [big] at z
      omega
    | some x =>
      rw [h2 _ _ hj, h2 _ _ hf] at e
      subst e
      obtain ⟨a1, e1⟩ := List.getElem?_eq_some_iff.mp hj
      obtain ⟨a2, e2⟩ := List.getElem?_eq_some_iff.mp hf
      rcases Nat.lt_trichotomy j f with q | q | q
      · exact absurd (e1.trans e2.symm) (List.pairwise_iff_getElem.mp nd j f a1 a2 q)
      · exact q
      · exact absurd (e2.trans e1.symm) (List.pairwise_iff_getElem.mp nd f j a2 a1 q)
theorem fldOf_ne {fs : List Str} {m : Str} (h : (decide (m ∉ fs) && decide (m.length < 1000)) = true) (j : Nat) : fldOf fs j ≠ m := fun e => by
  simp only [Bool.and_eq_true, decide_eq_true_eq] at h
  unfold fldOf at e
  cases hj : fs[j]? with
  | none =>
    rw [hj] at e
    have z := congrArg Str.length e
    rw [show (toS (List.replicate (j + 1000) 35)).length = j + 1000 by rw [toS_len, List.length_replicate]] at z
    omega
  | some y =>
    rw [hj] at e
    have e' : y = m := e
    subst e'
    exact h.1 (List.mem_of_getElem? hj)
abbrev Ents : Type := List He.Defn
def ctOf (K : PySem.W.Frag) (es : Ents) (fs : List Str) (tb : List (Addr × Str)) (a : Addr) (ns : List Int) : Ct := ⟨K, fun i => He.fAd K (es.getD i ("", none)), fldOf fs, tb, a, ns⟩
/-! ### the start -/
theorem sim_start {C : Ct} {H : Hp} (ht : ∀ p ∈ C.tabs, H p.1 = some (.tbl #[])) (hs : SqL C.K H C.scr (C.ns.map V.int)) : ∃ w : Wd, w.H = H ∧ Sim C w [] := by
  refine ⟨⟨fun _ => 0, 0, H⟩, rfl, rfl, fun i j hi => absurd hi (Nat.not_lt_zero i), fun i c e => by simp at e, fun p hp => LamX.TabS.nil (ht p hp), ?_⟩
  rcases hs with (h | ⟨o, h⟩) | h
  · exact .inl ⟨h, fun i hi => absurd hi (Nat.not_lt_zero i)⟩
  · exact .inr (.inl ⟨o, h⟩)
  · exact .inr (.inr h)
end OD
end

section
set_option Elab.async false
set_option linter.all false
set_option autoImplicit false
set_option maxRecDepth 100000
set_option maxHeartbeats 4000000
/-! OD16: isinstance by a table without texts -/
namespace OD
open PySem L2
inductive Ty where
  | non | bl | int | str | tup | lst | dic | ins (c : Nat)
def tyCl : Ty → Cl
  | .non => .b "NoneType"
  | .bl => .b "bool"
  | .int => .b "int"
  | .str => .b "str"
  | .tup => .b "tuple"
  | .lst => .b "list"
  | .dic => .b "dict"
  | .ins c => .o c
def tyOf (u : U) (S : Sto) : Option Ty := match u with
  | .non => some .non
  | .bl _ => some .bl
  | .int _ => some .int
  | .str _ => some .str
  | .tup _ => some .tup
  | .ref j => match S[j]? with
    | some (.lst _) => some .lst
    | some (.rom _) => some .lst
    | some (.dic _) => some .dic
    | some (.dit _) => some .dic
    | some (.ins c _) => some (.ins c)
    | _ => none
  | _ => none
theorem tyOf_cl {u : U} {S : Sto} {t : Ty} (h : tyOf u S = some t) : tyU u S = some (tyCl t) := by
  unfold tyOf at h
  unfold tyU
  cases u with
  | ref j =>
    simp only at h ⊢
    cases hc : S[j]? with
    | none => rw [hc] at h; cases h
    | some c =>
      rw [hc] at h
      cases c <;> simp only at h <;> cases h <;> rfl
  | _ => simp only at h <;> cases h <;> rfl
def subT : Ty → Ty → Bool
  | .non, .non => true
  | .bl, .bl => true
  | .int, .bl => true
  | .int, .int => true
  | .str, .str => true
  | .tup, .tup => true
  | .lst, .lst => true
  | .dic, .dic => true
  | _, _ => false
def isTy1 (t : Ty) (own : Nat → Option Bool) (u : U) (S : Sto) : Option Bool := match tyOf u S with
  | some (.ins c) => own c
  | some u' => some (subT t u')
  | none => none
def isTy2 (t1 t2 : Ty) (own : Nat → Option Bool) (u : U) (S : Sto) : Option Bool := match tyOf u S with
  | some (.ins c) => own c
  | some u' => some (subT t1 u' || subT t2 u')
  | none => none
def mIsT (f : U → Sto → Option Bool) (m : EM U) : EM U := fun e S => (m e S).bind fun u S1 => match f u S1 with
  | some k => .ok (.bl k) S1
  | none => .bad
section
variable {X : Cx} {C : Ct} {W : WX} {pos : Pos} {w w1 : Wd} {S : Sto} {σ : St} {H : Hp} {env : Env} {D : Ends}
def bTy : Ty → Bool
  | .ins _ => false
  | _ => true
theorem isTy1_ok {K : PySem.W.Frag} {t : Ty} {own : Nat → Option Bool} {u : U} {k : Bool} (hb : bTy t = true) (hown : ∀ c k, own c = some k → PySem.W.kitOne C.K (.ref (C.adr c)) (clU C (tyCl t)) = some k ∧ InsI C c) (h : isTy1 t own u S = some k) :
    ∃ t', tyU u S = some t' ∧ PySem.W.kitOne C.K (clU C t') (clU C (tyCl t)) = some k ∧ ∀ c, t' = .o c → InsI C c := by
  unfold isTy1 at h
  cases ht : tyOf u S with
  | none => rw [ht] at h; cases h
  | some u' =>
    rw [ht] at h
    refine ⟨_, tyOf_cl ht, ?_⟩
    cases u' with
    | ins c =>
      obtain ⟨h1, h2⟩ := hown c k h
      refine ⟨h1, fun c' e => ?_⟩
      cases e
      exact h2
    | _ =>
      simp only [Option.some.injEq] at h
      subst h
      refine ⟨?_, fun c e => nomatch e⟩
      cases t <;> first | (cases hb; done) | rfl
theorem isTy2_ok {t1 t2 : Ty} {own : Nat → Option Bool} {u : U} {k : Bool} (hb1 : bTy t1 = true) (hb2 : bTy t2 = true) (hown : ∀ c k, own c = some k → PySem.W.kitAny C.K (.ref (C.adr c)) [clU C (tyCl t1), clU C (tyCl t2)] = some k ∧ InsI C c) (h : isTy2 t1 t2 own u S = some k) :
    ∃ t', tyU u S = some t' ∧ PySem.W.kitAny C.K (clU C t') [clU C (tyCl t1), clU C (tyCl t2)] = some k ∧ ∀ c, t' = .o c → InsI C c := by
  unfold isTy2 at h
  cases ht : tyOf u S with
  | none => rw [ht] at h; cases h
  | some u' =>
    rw [ht] at h
    refine ⟨_, tyOf_cl ht, ?_⟩
    cases u' with
    | ins c =>
      obtain ⟨h1, h2⟩ := hown c k h
      refine ⟨h1, fun c' e => ?_⟩
      cases e
      exact h2
    | _ =>
      simp only [Option.some.injEq] at h
      subst h
      refine ⟨?_, fun c e => nomatch e⟩
      cases t1 <;> first | (cases hb1; done) | (cases t2 <;> first | (cases hb2; done) | rfl)
theorem eIsT {a b : Expr} {m : EM U} {own : Nat → Option Bool} {p : Pos} (t : Ty) (ha : PE X a (tE C W m)) (hb : ClE X C b (tyCl t)) (hown : ∀ c k, own c = some k → PySem.W.kitOne C.K (.ref (C.adr c)) (clU C (tyCl t)) = some k ∧ InsI C c) (hm : X.mg "isinstance" = none) (hbt : bTy t = true := by rfl)
    (hK : X.K = C.K := by rfl) (hg : Gl X "isinstance" := by rfl) (he : starEach [a, b] X.env = (false, eval a X.env) :: starEach [b] X.env := by rfl) (he2 : starEach [b] X.env = (false, eval b X.env) :: starEach [] X.env := by rfl) (hpl : (backTo pos (starEach [b] X.env)).any (·.1) = false := by rfl) :
    PE X (.Call (.Name "isinstance" p) [a, b] [] pos) (tE C W (mIsT (isTy1 t own) m)) :=
  PE_imp (pe_callB call_isi hg hm (by decide +kernel) (pa_cons ha (pa_cons hb.pe pa_nil he2) he) (by decide) (by decide) he hpl) fun σ H Q ⟨w, env, S, at_, p⟩ => tE_mono (fun x H1 ⟨w1, u, S1, at1, l1, r1, p1⟩ => by
    cases hk : isTy1 t own u S1 with
    | none => simp only [hk] at p1; exact p1.elim
    | some k =>
      simp only [hk] at p1
      obtain ⟨t', ht, h1, h2⟩ := isTy1_ok (K := C.K) hbt hown hk
      refine ⟨x, clV C (tyCl t), clU C t', clU C (tyCl t), k, rfl, clVU _, ?_, by rw [hK]; exact h1, ?_⟩
      · rw [hK, ← at1.h]; exact tyU_ok at1.s r1 ht h2
      · rw [← at1.h]; exact p1.ok (Le.refl _) at1.s (.bl k)) (tE_of at_ p)
theorem eIsT2 {a b1 b2 : Expr} {m : EM U} {own : Nat → Option Bool} {p p2 : Pos} {x1} (t1 t2 : Ty) (ha : PE X a (tE C W m)) (hb1 : ClE X C b1 (tyCl t1)) (hb2 : ClE X C b2 (tyCl t2)) (hown : ∀ c k, own c = some k → PySem.W.kitAny C.K (.ref (C.adr c)) [clU C (tyCl t1), clU C (tyCl t2)] = some k ∧ InsI C c) (hm : X.mg "isinstance" = none)
    (hbt1 : bTy t1 = true := by rfl) (hbt2 : bTy t2 = true := by rfl)
    (hK : X.K = C.K := by rfl) (hg : Gl X "isinstance" := by rfl) (hs1 : starEach [b1, b2] X.env = (false, eval b1 X.env) :: starEach [b2] X.env := by rfl) (hs2 : starEach [b2] X.env = (false, eval b2 X.env) :: starEach [] X.env := by rfl)
    (he : starEach [a, .Tuple [b1, b2] x1 p2] X.env = (false, eval a X.env) :: starEach [.Tuple [b1, b2] x1 p2] X.env := by rfl) (he2 : starEach [.Tuple [b1, b2] x1 p2] X.env = (false, eval (.Tuple [b1, b2] x1 p2) X.env) :: starEach [] X.env := by rfl) (hpl : (backTo pos (starEach [.Tuple [b1, b2] x1 p2] X.env)).any (·.1) = false := by rfl) :
    PE X (.Call (.Name "isinstance" p) [a, .Tuple [b1, b2] x1 p2] [] pos) (tE C W (mIsT (isTy2 t1 t2 own) m)) :=
  PE_imp (pe_callB call_isiT hg hm (by decide +kernel) (pa_cons ha (pa_cons (pe_tup (pa_cons hb1.pe (pa_cons hb2.pe pa_nil hs2) hs1)) pa_nil he2) he) (by decide) (by decide) he hpl) fun σ H Q ⟨w, env, S, at_, p⟩ => tE_mono (fun x H1 ⟨w1, u, S1, at1, l1, r1, p1⟩ => by
    cases hk : isTy2 t1 t2 own u S1 with
    | none => simp only [hk] at p1; exact p1.elim
    | some k =>
      simp only [hk] at p1
      obtain ⟨t', ht, h1, h2⟩ := isTy2_ok hbt1 hbt2 hown hk
      refine ⟨by show 2 ≤ sizeLine; decide, fun q hq => ?_⟩
      rw [← at1.h] at hq ⊢
      obtain ⟨s2, l2⟩ := at1.s.upd (o := .tup [clV C (tyCl t1), clV C (tyCl t2)]) hq
      refine ⟨x, q, [clV C (tyCl t1), clV C (tyCl t2)], clU C t', [clU C (tyCl t1), clU C (tyCl t2)], k, rfl, upd_same, .cons (clVU _) (.cons (clVU _) .nil), ?_, by rw [hK]; exact h1, ?_⟩
      · rw [hK]; exact tyU_ok s2 (r1.le l2) ht h2
      · exact p1.ok l2 s2 (.bl k)) (tE_of at_ p)
/-- no own class is asked -/
def ownN : Nat → Option Bool := fun _ => none
theorem ownN_ok {R : Nat → Bool → Prop} : ∀ c k, ownN c = some k → R c k := fun c k h => nomatch h
/-- the own class p is asked, the answer no -/
def ownF (p : Nat) : Nat → Option Bool := fun c => if c = p then some false else none
theorem ownF_ok {p : Nat} {R : Nat → Bool → Prop} (h : R p false) : ∀ c k, ownF p c = some k → R c k := fun c k e => by
  unfold ownF at e
  split at e
  · rename_i q; subst q; cases e; exact h
  · cases e
end
end OD
end

section
set_option Elab.async false
set_option linter.all false
set_option autoImplicit false
set_option maxRecDepth 100000
set_option maxHeartbeats 4000000
/-! OD17: x = {.. for ..} on one line; the free names of a lambda -/
namespace L2
open PySem PySem.Spec PyProof.Rows
section
variable {X : Cx}
theorem ps_setDcO {i : Nat} {y : Str} {py : Pos} {kx vx tg iter : Expr} {ifs : List Expr} {scope : Scope} {own : List (Str × Nat)} {pos spos : Pos} {wi : TI} {g : TG} {tt : TT} {tk tv : TE} (hc : X.calm = true) (hN : X.N.Nodup) (hy : X.N[i]? = some y) (hyl : X.env.scope.names.lookup y = some .local)
    (hsw : swapsWith (.DictComp kx vx [⟨tg, iter, ifs, 0⟩] scope pos) (some (.Name y py)) spos.line X.env = pure true) (hi : PI X tg iter wi) (ok : BlkOk X.N X.env.scope scope own)
    (hg : ∀ (s : Shared) (H : Hp) (C : Addr) (cl : List (Str × Addr)) (fp : List Addr), PG (X.blk s H scope (compEnvC scope cl C X.env) fp) tg g) (ht : ∀ (s : Shared) (H : Hp) (C : Addr) (cl : List (Str × Addr)) (fp : List Addr), PTs (X.blk s H scope (compEnvC scope cl C X.env) fp) ifs tt)
    (hk : ∀ (s : Shared) (H : Hp) (C : Addr) (cl : List (Str × Addr)) (fp : List Addr), PE (X.blk s H scope (compEnvC scope cl C X.env) fp) kx tk)
    (he : ∀ (s : Shared) (H : Hp) (C : Addr) (cl : List (Str × Addr)) (fp : List Addr), PE (X.blk s H scope (compEnvC scope cl C X.env) fp) vx tv) (hs : ∀ x, foldedSetIterable iter X.env x = pure x := by intro _; rfl) :
    PS X (.Assign [.Name y py] (.DictComp kx vx [⟨tg, iter, ifs, 0⟩] scope pos) spos) (tAsg (tDc wi g tt tk tv (own.map (·.2))) (gName i)) := by
  refine ⟨fun pins s σ H D I h => ?_⟩
  rw [exec_Assign_Name_used _ _ _ _ hsw]
  refine wpAny_bind (wpAny_standAt (wpAny_bind ?_))
  show wpAny _ X.A (do let _ ← comprehension (.DictComp kx vx [⟨tg, iter, ifs, 0⟩] scope pos) scope X.env (firstIterPos [⟨tg, iter, ifs, 0⟩] pos) newDict false (eval iter X.env) (some (assign (.Name y py) X.env))) _ _ s
  have h : tDc wi g tt tk tv (own.map (·.2)) σ H (fun x H1 => gName i x σ H1 D.nx) := h
  refine wpAny_bind (thn (dc_core (Qf := fun _ s' => SP X pins D .next s') hc hN I hi ok hg ht hk he hs h fun L C s' m H' I' q hn f => ?_) fun _ s' hq => wpAny_pure (wpAny_pure hq))
  show wpAny _ _ (assign (.Name y py) X.env (.ref L)) _ _ _
  refine wpAny_assign_Name (store_ok2 (v := V.ref L) I' hN hy (.inl hyl) rfl (fun s2 I2 ⟨a, sb, ha⟩ => ?_) (.inr hyl))
  obtain ⟨f0, f1, f2, f3, f4, f5⟩ := f
  have haC : C ≠ a := by
    rcases ha with z | z
    · rw [z]; exact f1
    · exact fun e => f4 y a z e.symm
  refine ⟨m, hn.sameBut sb haC, fun h3 sb3 => ?_⟩
  exact ⟨_, H', I2.turned (t' := s2.toks) (fun b o hb e => (sb3.2 b hb).trans e) f0 f1 f3 f4 f5, q⟩
end
end L2
namespace OD
open PySem L2
section
variable {X : Cx} {C : Ct} {W : WX} {pos : Pos}
theorem sSetDc {i : Nat} {y : Str} {py : Pos} {kx vx tg iter : Expr} {ifs : List Expr} {scope : Scope} {own : List (Str × Nat)} {spos : Pos} {m : EM Src} {t : Tgt} {tt : EM Bool} {tk tv : EM U} (hN : X.N.Nodup) (hi : PI X tg iter (tI C W m)) (ok : BlkOk X.N X.env.scope scope own)
    (hg : ∀ (s : Shared) (H : Hp) (D : Addr) (cl : List (Str × Addr)) (fp : List Addr), PG (X.blk s H scope (compEnvC scope cl D X.env) fp) tg (gOf C.K t)) (ht : ∀ (s : Shared) (H : Hp) (D : Addr) (cl : List (Str × Addr)) (fp : List Addr), PTs (X.blk s H scope (compEnvC scope cl D X.env) fp) ifs (tT C WF tt))
    (hk : ∀ (s : Shared) (H : Hp) (D : Addr) (cl : List (Str × Addr)) (fp : List Addr), PE (X.blk s H scope (compEnvC scope cl D X.env) fp) kx (tE C WF tk)) (he : ∀ (s : Shared) (H : Hp) (D : Addr) (cl : List (Str × Addr)) (fp : List Addr), PE (X.blk s H scope (compEnvC scope cl D X.env) fp) vx (tE C WF tv)) (hsw : swapsWith (.DictComp kx vx [⟨tg, iter, ifs, 0⟩] scope pos) (some (.Name y py)) spos.line X.env = pure true)
    (hy : X.N[i]? = some y := by rfl) (hyl : X.env.scope.names.lookup y = some .local := by rfl)
    (hv : ∀ i ∈ slots t, i ∈ own.map (·.2) := by decide) (hc : X.calm = true := by rfl) (hs : ∀ x, foldedSetIterable iter X.env x = pure x := by intro _; rfl) :
    PS X (.Assign [.Name y py] (.DictComp kx vx [⟨tg, iter, ifs, 0⟩] scope pos) spos) (tS C W (mAsg (.nm i) (mDc m t (own.map (·.2)) tt tk tv))) :=
  PS_imp (ps_setDcO hc hN hy hyl hsw hi ok hg ht hk he hs) fun D σ H ⟨w, env, S, at_, p⟩ => tDc_of (W := W) hv (tE_mono (fun x H1 ⟨w1, u, S1, at1, l1, r1, p1⟩ => by
    show D.nx (σ.set i (some x)) H1
    rw [← at1.h]
    exact p1.nx' at1.s (at1.e.set (.some r1) i)) (tE_st at_ p))
end
def lamF (sc scope : Scope) : Bool := scope.names.all fun y => !decide (y.2 = .free) || (decide (sc.names.lookup y.1 = some .cell) || decide (sc.names.lookup y.1 = some .free))
theorem lamF_ok {sc scope : Scope} (h : lamF sc scope = true) : ∀ y ∈ scope.names, y.2 = .free → sc.names.lookup y.1 = some .cell ∨ sc.names.lookup y.1 = some .free := fun y hy e => by
  unfold lamF at h
  rw [List.all_eq_true] at h
  have q := h y hy
  simp only [e, Bool.or_eq_true, decide_eq_true_eq, decide_true, Bool.not_true, Bool.false_eq_true, false_or] at q
  exact q
end OD
end

section
set_option Elab.async false
set_option linter.all false
set_option autoImplicit false
set_option maxRecDepth 100000
set_option maxHeartbeats 4000000
/-! OD18: isinstance of a caught error -/
namespace OD
open PySem L2
/-- the i-th slot holds the caught error at a; the answer is b -/
def tIsE (i : Nat) (a : Addr) (b : Bool) : TE := fun σ H Q => σ[i]? = some (some (.ref a)) ∧ Q (.bl b) H
theorem pe_isE {X : Cx} {a D : Addr} {oe : Obj} {pn : List (Addr × Obj)} (EC : L2.ExcC X.K D) (hz : Zc (.ref D) none oe) (hf : ∃ vs, oe.data = .fields vs) {i : Nat} {x : Str} {c : Expr} {v : V} {cv : Value} {b : Bool} {p p1 pos : Pos}
    (hc : PE (X.suite a ((a, oe) :: pn)) c (tC v)) (hv : ∀ u, RelV v u → u = cv) (hk : PySem.W.kitOne X.K (.ref D) cv = some b) (hm : X.mg "isinstance" = none)
    (hN : X.N[i]? = some x := by rfl) (hvi : Vis X.env.scope x := by first | exact Or.inl rfl | exact Or.inr (Or.inl rfl) | exact Or.inr (Or.inr rfl)) (hd : (x == ("__debug__" : Str)) = false := by decide) (hcd : (x == ("__classdict__" : Str)) = false := by decide)
    (hg : Gl X "isinstance" := by rfl) (he : starEach [.Name x p1, c] X.env = (false, eval (.Name x p1) X.env) :: starEach [c] X.env := by rfl) (he2 : starEach [c] X.env = (false, eval c X.env) :: starEach [] X.env := by rfl) (hpl : (backTo pos (starEach [c] X.env)).any (·.1) = false := by rfl) :
    PE (X.suite a ((a, oe) :: pn)) (.Call (.Name "isinstance" p) [.Name x p1, c] [] pos) (tIsE i a b) :=
  PE_imp (pe_callB (call_isE EC hz hf) hg hm (by decide +kernel) (pa_cons (pe_var (X := X.suite a ((a, oe) :: pn)) hN hvi hd hcd) (pa_cons hc pa_nil he2) he) (by decide) (by decide) he hpl) fun σ H Q ⟨h1, h2⟩ =>
    ⟨.ref a, h1, v, cv, b, rfl, hv, hk, h2⟩
/-- a reading for one kind of error -/
theorem pss_only {X : Cx} {sts : List Stmt} {A B : Prop} {t : TS} (h : A → B → PSs X sts t) : PSs X sts (fun D σ H => A ∧ B ∧ t D σ H) := ⟨fun pins s σ H D I ⟨a, b, q⟩ => (h a b).run pins s σ H D I q⟩
theorem EnvR.setAny {C : Ct} {w : Wd} : ∀ {e : Env} {σ : St} (i : Nat) (o : Option V), EnvR C w e σ → EnvR C w (e.set i none) (σ.set i o)
  | _, _, _, _, .nil => .nil
  | _, _, 0, _, .cons r t => .cons .none t
  | _, _, i + 1, o, .cons r t => .cons r (EnvR.setAny i o t)
end OD
end

section
set_option Elab.async false
set_option linter.all false
set_option autoImplicit false
set_option maxRecDepth 100000
set_option maxHeartbeats 4000000
/-! OD19 (printed by mk19.py): the readings run step by step: equations that fire on what is known -/
namespace OD
open PySem L2
section
variable {α β : Type} {e : Env} {S : Sto} {u v : U} {us : List U} {a b o m : EM U} {ms : EM (List U)} {x y : EM Bool} {p q : SM} {f g : U → U → Sto → Option (U × Sto)} {h : U → Sto → Option (U × Sto)} {fl : List U → Sto → Option (U × Sto)}
theorem ev_bind {k : α → Sto → Rs β} {z : α} : (Rs.ok z S).bind k = k z S := rfl
theorem ev_bindx {k : α → Sto → Rs β} {c : Nat} {z : Option (Nat × U)} : (Rs.ex c z S : Rs α).bind k = .ex c z S := rfl
theorem ev_st {k : α → Sto → Out} {z : α} : (Rs.ok z S).st e k = k z S := rfl
theorem ev_stx {k : α → Sto → Out} {c : Nat} {z : Option (Nat × U)} : (Rs.ex c z S : Rs α).st e k = .ex c z e S := rfl
theorem ev_nox {k : α → Sto → Rs β} {z : α} : (Rs.ok z S).nox k = k z S := rfl
theorem ev_seq {k : Env → Sto → Out} : (Out.nx e S).seq k = k e S := rfl
theorem ev_seqr {k : Env → Sto → Out} : (Out.rt u S).seq k = .rt u S := rfl
theorem ev_seqx {k : Env → Sto → Out} {c : Nat} {z : Option (Nat × U)} : (Out.ex c z e S).seq k = .ex c z e S := rfl
theorem ev_lift : lift (some (u, S)) = .ok u S := rfl
def cVar (S : Sto) : Option (Option U) → Rs U
  | some (some u) => .ok u S
  | _ => .bad
theorem ev_var {i : Nat} : mVar i e S = cVar S e[i]? := by unfold mVar cVar; rcases e[i]? with _ | _ | _ <;> rfl
theorem ev_var1 : cVar S (some (some u)) = .ok u S := rfl
theorem ev_k : mK u e S = .ok u S := rfl
def cOp2 (f : U → U → Sto → Option (U × Sto)) (u : U) : U → Sto → Rs U := fun v S => lift (f u v S)
def cOp1 (f : U → U → Sto → Option (U × Sto)) (b : EM U) (e : Env) : U → Sto → Rs U := fun u S => (b e S).bind (cOp2 f u)
theorem ev_op : mOp f a b e S = (a e S).bind (cOp1 f b e) := rfl
theorem ev_op1 : cOp1 f b e u S = (b e S).bind (cOp2 f u) := rfl
theorem ev_op2 : cOp2 f u v S = lift (f u v S) := rfl
def cUn (h : U → Sto → Option (U × Sto)) : U → Sto → Rs U := fun u S => lift (h u S)
theorem ev_un : mUn h a e S = (a e S).bind (cUn h) := rfl
theorem ev_un1 : cUn h u S = lift (h u S) := rfl
theorem ev_nil : mNil e S = .ok [] S := rfl
def cCons2 (u : U) : List U → Sto → Rs (List U) := fun us S => .ok (u :: us) S
def cCons1 (ms : EM (List U)) (e : Env) : U → Sto → Rs (List U) := fun u S => (ms e S).bind (cCons2 u)
theorem ev_cons : mCons a ms e S = (a e S).bind (cCons1 ms e) := rfl
theorem ev_cons1 : cCons1 ms e u S = (ms e S).bind (cCons2 u) := rfl
theorem ev_cons2 : cCons2 u us S = .ok (u :: us) S := rfl
def cTup : List U → Sto → Rs U := fun us S => if us.length ≤ sizeLine then .ok (.tup us) S else .bad
theorem ev_tup : mTup ms e S = (ms e S).bind cTup := rfl
theorem ev_tup1 (z : us.length ≤ sizeLine) : cTup us S = .ok (.tup us) S := if_pos z
def cLst : List U → Sto → Rs U := fun us S => if us.length ≤ sizeLine then .ok (.ref S.length) (S ++ [.lst us]) else .bad
theorem ev_lst : mLst ms e S = (ms e S).bind cLst := rfl
theorem ev_lst1 (z : us.length ≤ sizeLine) : cLst us S = .ok (.ref S.length) (S ++ [.lst us]) := if_pos z
def cB (fl : List U → Sto → Option (U × Sto)) : List U → Sto → Rs U := fun us S => lift (fl us S)
theorem ev_b : mB fl ms e S = (ms e S).bind (cB fl) := rfl
theorem ev_bl : mBL fl ms e S = (ms e S).bind (cB fl) := rfl
theorem ev_b1 : cB fl us S = lift (fl us S) := rfl
def cNew : List U → Sto → Rs U := fun us S => .ok (.ref S.length) (S ++ [.lst us])
theorem ev_new : mNew ms e S = (ms e S).bind cNew := rfl
theorem ev_new1 : cNew us S = .ok (.ref S.length) (S ++ [.lst us]) := rfl
def cM2 (F : U → List U → Sto → Option (U × Sto)) (u : U) : List U → Sto → Rs U := fun us S => lift (F u us S)
def cM1 (T : Nat) (F : U → List U → Sto → Option (U × Sto)) (ms : EM (List U)) (e : Env) : U → Sto → Rs U := fun u S => if isTy T u S then (ms e S).bind (cM2 F u) else .bad
theorem ev_m {T : Nat} {F : U → List U → Sto → Option (U × Sto)} : mM T F o ms e S = (o e S).bind (cM1 T F ms e) := rfl
theorem ev_m1 {T : Nat} {F : U → List U → Sto → Option (U × Sto)} (z : isTy T u S = true) : cM1 T F ms e u S = (ms e S).bind (cM2 F u) := if_pos z
theorem ev_m2 {F : U → List U → Sto → Option (U × Sto)} : cM2 F u us S = lift (F u us S) := rfl
def cAnd (b : EM U) (e : Env) : U → Sto → Rs U := fun u S => match u with
  | .bl true => b e S
  | .bl false => .ok (.bl false) S
  | _ => .bad
theorem ev_and : mAnd a b e S = (a e S).bind (cAnd b e) := rfl
theorem ev_andt : cAnd b e (.bl true) S = b e S := rfl
theorem ev_andf : cAnd b e (.bl false) S = .ok (.bl false) S := rfl
def cOr (b : EM U) (e : Env) : U → Sto → Rs U := fun u S => match u with
  | .bl true => .ok (.bl true) S
  | .bl false => b e S
  | _ => .bad
theorem ev_or : mOr a b e S = (a e S).bind (cOr b e) := rfl
theorem ev_ort : cOr b e (.bl true) S = .ok (.bl true) S := rfl
theorem ev_orf : cOr b e (.bl false) S = b e S := rfl
def cNot : U → Sto → Rs U := fun u S => match u with
  | .bl k => .ok (.bl (!k)) S
  | _ => .bad
theorem ev_not : mNot a e S = (a e S).bind cNot := rfl
theorem ev_not1 {k : Bool} : cNot (.bl k) S = .ok (.bl (!k)) S := rfl
def cIf (a b : EM U) (e : Env) : Bool → Sto → Rs U := fun k S => match k with
  | true => a e S
  | false => b e S
theorem ev_if : mIf x a b e S = (x e S).bind (cIf a b e) := rfl
theorem ev_ift : cIf a b e true S = a e S := rfl
theorem ev_iff : cIf a b e false S = b e S := rfl
def cB1 : U → Sto → Rs Bool := fun u S => match u with
  | .bl k => .ok k S
  | _ => .bad
theorem ev_asb : asB m e S = (m e S).bind cB1 := rfl
theorem ev_asb1 {k : Bool} : cB1 (.bl k) S = .ok k S := rfl
def cTAnd (y : EM Bool) (e : Env) : Bool → Sto → Rs Bool := fun k S => match k with
  | true => y e S
  | false => .ok false S
theorem ev_tand : tmAnd x y e S = (x e S).bind (cTAnd y e) := rfl
theorem ev_tandt : cTAnd y e true S = y e S := rfl
theorem ev_tandf : cTAnd y e false S = .ok false S := rfl
def cTOr (y : EM Bool) (e : Env) : Bool → Sto → Rs Bool := fun k S => match k with
  | true => .ok true S
  | false => y e S
theorem ev_tor : tmOr x y e S = (x e S).bind (cTOr y e) := rfl
theorem ev_tort : cTOr y e true S = .ok true S := rfl
theorem ev_torf : cTOr y e false S = y e S := rfl
def cTNot : Bool → Sto → Rs Bool := fun k S => .ok (!k) S
theorem ev_tnot : tmNot x e S = (x e S).bind cTNot := rfl
theorem ev_tnot1 {k : Bool} : cTNot k S = .ok (!k) S := rfl
def cO : Option Bool → Sto → Rs Bool := fun k S => match k with
  | some k => .ok k S
  | none => .bad
def cTru : U → Sto → Rs Bool := fun u S => cO (truU u S) S
theorem ev_tru : mTru m e S = (m e S).bind cTru := by unfold mTru; congr 1
theorem ev_tru1 : cTru u S = cO (truU u S) S := rfl
theorem ev_o {k : Bool} : cO (some k) S = .ok k S := rfl
def cIs0 (k : Option Bool) (S : Sto) : Rs U := match k with
  | some k => .ok (.bl k) S
  | none => .bad
def cIs (F : U → Sto → Option Bool) : U → Sto → Rs U := fun u S => cIs0 (F u S) S
theorem ev_is {F : U → Sto → Option Bool} : mIsT F m e S = (m e S).bind (cIs F) := by unfold mIsT; congr 1
theorem ev_is1 {F : U → Sto → Option Bool} : cIs F u S = cIs0 (F u S) S := rfl
theorem ev_is2 {k : Bool} : cIs0 (some k) S = .ok (.bl k) S := rfl
def cCh4 (g : U → U → Sto → Option (U × Sto)) (v : U) : U → Sto → Rs U := fun w S => lift (g v w S)
def cCh3 (g : U → U → Sto → Option (U × Sto)) (v : U) (c : EM U) (e : Env) : U → Sto → Rs U := fun z S => match z with
  | .bl true => (c e S).bind (cCh4 g v)
  | .bl false => .ok (.bl false) S
  | _ => .bad
def cCh2 (f g : U → U → Sto → Option (U × Sto)) (u : U) (c : EM U) (e : Env) : U → Sto → Rs U := fun v S => (lift (f u v S)).bind (cCh3 g v c e)
def cCh1 (f g : U → U → Sto → Option (U × Sto)) (b c : EM U) (e : Env) : U → Sto → Rs U := fun u S => (b e S).bind (cCh2 f g u c e)
theorem ev_ch {c : EM U} : mChain f g a b c e S = (a e S).bind (cCh1 f g b c e) := rfl
theorem ev_ch1 {c : EM U} : cCh1 f g b c e u S = (b e S).bind (cCh2 f g u c e) := rfl
theorem ev_ch2 {c : EM U} : cCh2 f g u c e v S = (lift (f u v S)).bind (cCh3 g v c e) := rfl
theorem ev_ch3t {c : EM U} : cCh3 g v c e (.bl true) S = (c e S).bind (cCh4 g v) := rfl
theorem ev_ch3f {c : EM U} : cCh3 g v c e (.bl false) S = .ok (.bl false) S := rfl
theorem ev_ch4 {w : U} : cCh4 g v w S = lift (g v w S) := rfl
def cSl3 (u : U) (l : Option Int) : Option Int → Sto → Rs U := fun h S => lift (fSl u l h S)
def cSl2 (u : U) (hi : EO) (e : Env) : Option Int → Sto → Rs U := fun l S => (hi e S).bind (cSl3 u l)
def cSl1 (lo hi : EO) (e : Env) : U → Sto → Rs U := fun u S => (lo e S).bind (cSl2 u hi e)
theorem ev_sl {lo hi : EO} : mSl m lo hi e S = (m e S).bind (cSl1 lo hi e) := rfl
theorem ev_sl1 {lo hi : EO} : cSl1 lo hi e u S = (lo e S).bind (cSl2 u hi e) := rfl
theorem ev_sl2 {hi : EO} {l : Option Int} : cSl2 u hi e l S = (hi e S).bind (cSl3 u l) := rfl
theorem ev_sl3 {l h : Option Int} : cSl3 u l h S = lift (fSl u l h S) := rfl
theorem ev_on : moN e S = .ok none S := rfl
def cOs : U → Sto → Rs (Option Int) := fun u S => match u with
  | .int i => .ok (some i) S
  | _ => .bad
theorem ev_os : moS m e S = (m e S).bind cOs := by unfold moS; congr 1
theorem ev_os1 {i : Int} : cOs (.int i) S = .ok (some i) S := rfl
def cCall (n : Nat) (D : FM) : List U → Sto → Rs U := fun us S => if us.length = n then D us S else .bad
theorem ev_call {n : Nat} {D : FM} : mCall n D ms e S = (ms e S).bind (cCall n D) := rfl
theorem ev_call1 {n : Nat} {D : FM} (z : us.length = n) : cCall n D us S = D us S := if_pos z
def cG (t : Tgt) (e : Env) : U → Sto → Out := fun u S => match setT t u e with
  | some e2 => .nx e2 S
  | none => .bad
theorem ev_asg {t : Tgt} : mAsg t m e S = (m e S).st e (cG t e) := by unfold mAsg; congr 1
theorem ev_asg1 {i : Nat} : cG (.nm i) e u S = .nx (e.set i (some u)) S := rfl
theorem ev_asgt {is : List Nat} {e2 : Env} (z : setAll is us e = some e2) : cG (.tp is) e (.tup us) S = .nx e2 S := by unfold cG setT; simp only [z]
def cX (e : Env) : U → Sto → Out := fun _ S => .nx e S
theorem ev_x : mExpr m e S = (m e S).st e (cX e) := rfl
theorem ev_x1 : cX e u S = .nx e S := rfl
def cR : U → Sto → Out := fun u S => .rt u S
theorem ev_r : mRet m e S = (m e S).st e cR := rfl
theorem ev_r1 : cR u S = .rt u S := rfl
theorem ev_rn : mRetN e S = .rt .non S := rfl
theorem ev_skip : mSkip e S = .nx e S := rfl
theorem ev_mseq : mSeq p q e S = (p e S).seq q := rfl
theorem ev_cont : mCont e S = .ct e S := rfl
theorem ev_break : mBreak e S = .bk e S := rfl
def cIfS (p q : SM) (e : Env) : Bool → Sto → Out := fun k S => match k with
  | true => p e S
  | false => q e S
theorem ev_ifs : mIfS x p q e S = (x e S).st e (cIfS p q e) := rfl
theorem ev_ifst : cIfS p q e true S = p e S := rfl
theorem ev_ifsf : cIfS p q e false S = q e S := rfl
def cSi0 (j : Nat) (n : Int) (v : U) (e : Env) (S : Sto) : Option Cell → Out
  | some (.lst xs) => match ixN xs.length n with
    | some a => .nx e (S.set j (.lst (xs.set a v)))
    | none => .bad
  | _ => .bad
def cSi3 (v u : U) (e : Env) : U → Sto → Out := fun k S => match u, k with
  | .ref j, .int n => cSi0 j n v e S S[j]?
  | _, _ => .bad
def cSi2 (v : U) (i : EM U) (e : Env) : U → Sto → Out := fun u S => (i e S).st e (cSi3 v u e)
def cSi1 (o i : EM U) (e : Env) : U → Sto → Out := fun v S => (o e S).st e (cSi2 v i e)
theorem ev_si {i : EM U} : mSetI o i m e S = (m e S).st e (cSi1 o i e) := by
  unfold mSetI cSi1 cSi2 cSi3
  congr 1
theorem ev_si1 {i : EM U} : cSi1 o i e v S = (o e S).st e (cSi2 v i e) := rfl
theorem ev_si2 {i : EM U} : cSi2 v i e u S = (i e S).st e (cSi3 v u e) := rfl
theorem ev_si3 {j : Nat} {n : Int} : cSi3 v (.ref j) e (.int n) S = cSi0 j n v e S S[j]? := rfl
theorem ev_si4 {j : Nat} {n : Int} {xs : List U} {a : Nat} (z : ixN xs.length n = some a) : cSi0 j n v e S (some (.lst xs)) = .nx e (S.set j (.lst (xs.set a v))) := by unfold cSi0; simp only [z]
def cAug2 (i : Nat) (e : Env) : U → Sto → Out := fun z S => .nx (e.set i (some z)) S
def cAug1 (i : Nat) (f : U → U → Sto → Option (U × Sto)) (u : U) (e : Env) : U → Sto → Out := fun v S => (lift (f u v S)).st e (cAug2 i e)
def cAug (i : Nat) (f : U → U → Sto → Option (U × Sto)) (m : EM U) (e : Env) (S : Sto) : Option (Option U) → Out
  | some (some u) => (m e S).st e (cAug1 i f u e)
  | _ => .bad
theorem ev_aug {i : Nat} : mAug i f m e S = cAug i f m e S e[i]? := by unfold mAug cAug; rcases e[i]? with _ | _ | _ <;> rfl
theorem ev_aug0 {i : Nat} : cAug i f m e S (some (some u)) = (m e S).st e (cAug1 i f u e) := rfl
theorem ev_aug1 {i : Nat} : cAug1 i f u e v S = (lift (f u v S)).st e (cAug2 i e) := rfl
theorem ev_aug2 {i : Nat} : cAug2 i e u S = .nx (e.set i (some u)) S := rfl
def cFn : Out → Rs U
  | .nx _ S => .ok .non S
  | .rt u S => .ok u S
  | .ex c f _ S => .ex c f S
  | _ => .bad
theorem ev_fn {n : Nat} : fnD n p us S = cFn (p (us.map some ++ List.replicate (n - us.length) none) S) := by unfold fnD cFn; cases p (us.map some ++ List.replicate (n - us.length) none) S <;> rfl
theorem ev_fnn : cFn (.nx e S) = .ok .non S := rfl
theorem ev_fnr : cFn (.rt u S) = .ok u S := rfl
theorem ev_fnx {c : Nat} {z : Option (Nat × U)} : cFn (.ex c z e S) = .ex c z S := rfl
/-! ### the functions -/
theorem ix_tup {xs : List U} {i : Int} {z : U} (hz : atI xs i = some z) : fIx (.tup xs) (.int i) S = some (z, S) := by simp only [fIx, hz]
theorem ix_lst {j : Nat} {xs : List U} {i : Int} {z : U} (hj : S[j]? = some (.lst xs)) (hz : atI xs i = some z) : fIx (.ref j) (.int i) S = some (z, S) := by simp only [fIx, hj, hz]
theorem ix_str {s : List Nat} {i : Int} {c : Nat} (hs : s.length ≤ sizeLine) (hz : atI s i = some c) : fIx (.str s) (.int i) S = some (.str [c], S) := by simp only [fIx, hz, if_pos hs]
theorem at0 {x : α} {xs : List α} : atI (x :: xs) 0 = some x := by simp [atI, ixN]
theorem at1 {x y : α} {xs : List α} : atI (x :: y :: xs) 1 = some y := by unfold atI ixN; rw [if_pos (by decide), if_pos (by simp only [List.length_cons]; omega)]; rfl
theorem at2 {x y z : α} {xs : List α} : atI (x :: y :: z :: xs) 2 = some z := by unfold atI ixN; rw [if_pos (by decide), if_pos (by simp only [List.length_cons]; omega)]; rfl
theorem at3 {x y z w : α} {xs : List α} : atI (x :: y :: z :: w :: xs) 3 = some w := by unfold atI ixN; rw [if_pos (by decide), if_pos (by simp only [List.length_cons]; omega)]; rfl
theorem len_tup {xs : List U} : fLen [.tup xs] S = some (.int xs.length, S) := rfl
theorem len_scr {ns : List Int} : fLen [.scr ns] S = some (.int ns.length, S) := rfl
theorem len_lst {j : Nat} {xs : List U} (hj : S[j]? = some (.lst xs)) : fLen [.ref j] S = some (.int xs.length, S) := by simp only [fLen, hj]
theorem int_int {i : Int} : fInt [.int i] S = some (.int i, S) := rfl
theorem add_int {i j : Int} : fAdd (.int i) (.int j) S = some (.int (i + j), S) := rfl
theorem add_tup {xs ys : List U} (hz : xs.length + ys.length ≤ sizeLine) : fAdd (.tup xs) (.tup ys) S = some (.tup (xs ++ ys), S) := by simp only [fAdd]; first | rfl | rw [if_pos hz] | (split <;> simp_all)
theorem sub_int {i j : Int} : fSub (.int i) (.int j) S = some (.int (i - j), S) := rfl
theorem eq_int {i j : Int} : fEq (.int i) (.int j) S = some (.bl (i == j), S) := rfl
theorem eq_bl {i j : Bool} : fEq (.bl i) (.bl j) S = some (.bl (i == j), S) := rfl
theorem eq_str {i j : List Nat} : fEq (.str i) (.str j) S = some (.bl (i == j), S) := rfl
theorem lt_int {i j : Int} : fLt (.int i) (.int j) S = some (.bl (decide (i < j)), S) := rfl
theorem le_int {i j : Int} : fLe (.int i) (.int j) S = some (.bl (decide (i ≤ j)), S) := rfl
theorem gt_int {i j : Int} : fGt (.int i) (.int j) S = some (.bl (decide (j < i)), S) := rfl
theorem ge_int {i j : Int} : fGe (.int i) (.int j) S = some (.bl (decide (j ≤ i)), S) := rfl
theorem mod_int {i j : Int} (hj : 0 < j) : fMod (.int i) (.int j) S = some (.int (i % j), S) := if_pos hj
theorem div_int {i j : Int} (h1 : 0 < j) (h2 : j < 1073741824) : fDiv (.int i) (.int j) S = some (.int (i / j), S) := if_pos ⟨h1, h2⟩
theorem mul_int {i j : Int} (hj : (isSmall i || isSmall j) = true) : fMul (.int i) (.int j) S = some (.int (i * j), S) := if_pos hj
end
end OD
end

section
set_option Elab.async false
set_option linter.all false
set_option autoImplicit false
set_option maxRecDepth 100000
set_option maxHeartbeats 4000000
/-! OD20: more equations -/
namespace OD
open PySem L2
section
variable {e : Env} {S : Sto} {u v x y : U} {us r : List U}
theorem ixN_0 {n : Nat} : ixN (n + 1) 0 = some 0 := by unfold ixN; rw [if_pos (by decide), if_pos (by omega)]; rfl
theorem ixN_1 {n : Nat} : ixN (n + 1 + 1) 1 = some 1 := by unfold ixN; rw [if_pos (by decide), if_pos (by omega)]; rfl
theorem si_0 {j : Nat} : cSi0 j 0 v e S (some (.lst (x :: r))) = .nx e (S.set j (.lst (v :: r))) := ev_si4 (a := 0) ixN_0
theorem si_1 {j : Nat} : cSi0 j 1 v e S (some (.lst (x :: y :: r))) = .nx e (S.set j (.lst (x :: v :: r))) := ev_si4 (a := 1) ixN_1
theorem isN_int {i : Int} : fIsNN (.int i) .non S = some (.bl true, S) := rfl
theorem isN_non : fIsNN .non .non S = some (.bl false, S) := rfl
theorem mulS {i : Int} {n : Int} (h : isSmall n = true) : fMul (.int i) (.int n) S = some (.int (i * n), S) := OD.mul_int (by rw [h, Bool.or_true])
theorem mulS' {i : Int} {n : Int} (h : isSmall n = true) : fMul (.int n) (.int i) S = some (.int (n * i), S) := OD.mul_int (by rw [h, Bool.true_or])
theorem isTy_lst {j : Nat} (h : S[j]? = some (.lst us)) : isTy 0 (.ref j) S = true := by simp only [isTy, h]; rfl
theorem pop0 {j : Nat} (h : S[j]? = some (.lst (x :: r))) : fPopAt (.ref j) [.int 0] S = some (x, S.set j (.lst r)) := by
  simp only [fPopAt, h]
  rw [if_pos (by decide)]
  have e : seqIndex? 0 (x :: r).length = some 0 := by
    unfold seqIndex?
    simp
  rw [e]
  rfl
theorem isTy_str {s : List Nat} : isTy 2 (.str s) S = true := rfl
variable {t : EM Bool} {b : SM}
def cWe (t : EM Bool) (b : SM) (n : Nat) : Out → Out
  | .nx e S => whGo t b n e S
  | .ct e S => whGo t b n e S
  | .bk e S => .nx e S
  | o => o
def cWh (t : EM Bool) (b : SM) (n : Nat) (e : Env) : Bool → Sto → Out := fun k S => match k with
  | false => .nx e S
  | true => cWe t b n (b e S)
theorem ev_wh {n : Nat} : whGo t b (n + 1) e S = (t e S).st e (cWh t b n e) := by
  show (t e S).st e _ = _
  congr 1
theorem ev_whf {n : Nat} : cWh t b n e false S = .nx e S := rfl
theorem ev_wht {n : Nat} : cWh t b n e true S = cWe t b n (b e S) := rfl
theorem ev_wen {n : Nat} : cWe t b n (.nx e S) = whGo t b n e S := rfl
theorem ev_wer {n : Nat} : cWe t b n (.rt u S) = .rt u S := rfl
end
end OD
end

section
set_option Elab.async false
set_option linter.all false
set_option autoImplicit false
set_option maxRecDepth 100000
set_option maxHeartbeats 4000000
/-! OD21 (printed by mk21.py): walks and made lists, step by step -/
namespace OD
open PySem L2
section
variable {e : Env} {S : Sto} {u v : U} {us xs ys : List U} {m o : EM U} {ms : EM (List U)} {t : Tgt} {vs : List Nat} {tt : EM Bool} {te : EM U} {b : SM}
def cMsT : U → Sto → Rs Src := fun u S => match u with
  | .tup us => .ok (.its us) S
  | _ => .bad
theorem ev_mst : msT m e S = (m e S).bind cMsT := rfl
theorem ev_mst1 : cMsT (.tup us) S = .ok (.its us) S := rfl
def cMsL0 (j : Nat) (S : Sto) : Option Cell → Rs Src
  | some (.lst _) => .ok (.cel j) S
  | some (.rom _) => .ok (.cel j) S
  | _ => .bad
def cMsL : U → Sto → Rs Src := fun u S => match u with
  | .ref j => cMsL0 j S S[j]?
  | .scr ns => .ok (.its (ns.map U.int)) S
  | _ => .bad
theorem ev_msl : msL m e S = (m e S).bind cMsL := by
  unfold msL
  congr 1
theorem ev_msl1 {j : Nat} : cMsL (.ref j) S = cMsL0 j S S[j]? := rfl
theorem ev_msl2 {j : Nat} : cMsL0 j S (some (.lst us)) = .ok (.cel j) S := rfl
theorem ev_mscr {ns : List Int} : cMsL (.scr ns) S = .ok (.its (ns.map U.int)) S := rfl
def cEnT : List U → Sto → Rs Src := fun us S => match us with
  | [.tup xs] => .ok (.its (enumU 0 xs)) S
  | _ => .bad
theorem ev_ent : msEnT ms e S = (ms e S).bind cEnT := rfl
theorem ev_ent1 : cEnT [.tup xs] S = .ok (.its (enumU 0 xs)) S := rfl
def cZip : List U → Sto → Rs Src := fun us S => match us with
  | [.tup xs, .tup ys] => .ok (.its (zipU xs ys)) S
  | [.ref i, .ref j] => match S[i]?, S[j]? with
    | some (.lst _), some (.lst _) => .ok (.zip2 i j) S
    | _, _ => .bad
  | _ => .bad
theorem ev_zip : msZip ms e S = (ms e S).bind cZip := rfl
theorem ev_zip1 : cZip [.tup xs, .tup ys] S = .ok (.its (zipU xs ys)) S := rfl
theorem ev_zip2 {i j : Nat} (h1 : S[i]? = some (.lst xs)) (h2 : S[j]? = some (.lst ys)) : cZip [.ref i, .ref j] S = .ok (.zip2 i j) S := by unfold cZip; simp only [h1, h2]
def cR1 : List U → Sto → Rs Src := fun us S => match us with
  | [.int j] => if -(2 ^ 62) ≤ j ∧ j < 2 ^ 62 then .ok (.its (rngU 0 j.toNat)) S else .bad
  | _ => .bad
theorem ev_rg : msR1 ms e S = (ms e S).bind cR1 := rfl
theorem rg_run {j : Int} (h : -(2 ^ 62) ≤ j ∧ j < 2 ^ 62) : cR1 [.int j] S = .ok (.its (rngU 0 j.toNat)) S := if_pos h
def cLc (t : Tgt) (vs : List Nat) (tt : EM Bool) (te : EM U) (e : Env) : Src → Sto → Rs (List U) := fun x S => match srcAt x S with
  | none => .bad
  | some us => lcGo x t vs tt te e (us.length + 1) 0 [] S
theorem ev_lc {m : EM Src} : mLc m t vs tt te e S = (m e S).bind (cLc t vs tt te e) := rfl
theorem lc_run {x : Src} (h : srcAt x S = some us) : cLc t vs tt te e x S = lcGo x t vs tt te e (us.length + 1) 0 [] S := by unfold cLc; rw [h]
def cFor (t : Tgt) (b : SM) (e : Env) : Src → Sto → Out := fun x S => match srcAt x S with
  | none => .bad
  | some us => forGo x t b (us.length + 1) 0 e S
theorem ev_for {m : EM Src} : mFor m t b e S = (m e S).st e (cFor t b e) := rfl
theorem for_run {x : Src} (h : srcAt x S = some us) : cFor t b e x S = forGo x t b (us.length + 1) 0 e S := by unfold cFor; rw [h]
def cExt2 (u : U) : List U → Sto → Rs U := fun us S => match u with
  | .ref j => match S[j]? with
    | some (.lst xs) => if xs.length + us.length ≤ sizeLine then .ok .non (S.set j (.lst (xs ++ us))) else .bad
    | _ => .bad
  | _ => .bad
def cExt1 (m : EM (List U)) (e : Env) : U → Sto → Rs U := fun u S => if isTy 0 u S then (m e S).bind (cExt2 u) else .bad
theorem ev_ext {m : EM (List U)} : mExt o m e S = (o e S).bind (cExt1 m e) := rfl
theorem ev_ext1 {m : EM (List U)} (h : isTy 0 u S = true) : cExt1 m e u S = (m e S).bind (cExt2 u) := if_pos h
theorem ext_run {j : Nat} (h : S[j]? = some (.lst xs)) (hz : xs.length + us.length ≤ sizeLine) : cExt2 (.ref j) us S = .ok .non (S.set j (.lst (xs ++ us))) := by unfold cExt2; simp only [h, if_pos hz]
/-! ### made lists, whose items keep what stands -/
/-- nothing that stands is changed -/
structure App (S S' : Sto) : Prop where
  len : S.length ≤ S'.length
  same : ∀ i, i < S.length → S'[i]? = S[i]?
theorem App.refl {S : Sto} : App S S := ⟨Nat.le_refl _, fun _ _ => rfl⟩
theorem App.trans {S S1 S2 : Sto} (a : App S S1) (b : App S1 S2) : App S S2 := ⟨Nat.le_trans a.len b.len, fun i h => (b.same i (Nat.lt_of_lt_of_le h a.len)).trans (a.same i h)⟩
theorem App.app {S T : Sto} : App S (S ++ T) := ⟨by simp, fun i h => List.getElem?_append_left h⟩
theorem App.get {S S' : Sto} (a : App S S') {i : Nat} {c : Cell} (h : S[i]? = some c) : S'[i]? = some c := by rw [a.same i (List.getElem?_eq_some_iff.mp h).1]; exact h
theorem lc_all {x : Src} {r : U → U} {S0 : Sto} (hx : ∀ S, App S0 S → srcAt x S = some us) (hz : us.length ≤ sizeLine)
    (h : ∀ u, u ∈ us → ∃ e', setT t u (wipeE e vs) = some e' ∧ ∀ S, App S0 S → ∃ S', te e' S = .ok (r u) S' ∧ App S S') :
    ∀ (n i : Nat) (acc : List U) (S : Sto), App S0 S → acc.length = i → i + n = us.length + 1 → 0 < n → ∃ S', lcGo x t vs mYes te e n i acc S = .ok (acc ++ (us.drop i).map r) S' ∧ App S S'
  | 0, i, acc, S, a, hi, hn, h0 => absurd h0 (Nat.lt_irrefl _)
  | n + 1, i, acc, S, a, hi, hn, _ => by
    unfold lcGo
    rw [hx S a]
    cases hu : us[i]? with
    | none =>
      have hl : us.length ≤ i := List.getElem?_eq_none_iff.mp hu
      have e1 : i = us.length := by omega
      refine ⟨S, ?_, .refl⟩
      simp only [hu]
      rw [if_pos e1, e1, List.drop_length, List.map_nil, List.append_nil]
    | some u =>
      have hlt : i < us.length := (List.getElem?_eq_some_iff.mp hu).1
      obtain ⟨e', h1, h2⟩ := h u (List.mem_of_getElem? hu)
      obtain ⟨S1, h3, a1⟩ := h2 S a
      obtain ⟨S2, h4, a2⟩ := lc_all (x := x) (r := r) hx hz h n (i + 1) (acc ++ [r u]) S1 (a.trans a1) (by simp [hi]) (by omega) (by omega)
      refine ⟨S2, ?_, a1.trans a2⟩
      simp only [hu, h1]
      show ((te e' S).nox fun z S2 => if acc.length < sizeLine then lcGo x t vs mYes te e n (i + 1) (acc ++ [z]) S2 else Rs.bad) = _
      rw [h3]
      show (if acc.length < sizeLine then lcGo x t vs mYes te e n (i + 1) (acc ++ [r u]) S1 else Rs.bad) = _
      rw [if_pos (by omega), h4]
      have e5 : us.drop i = u :: us.drop (i + 1) := by
        rw [List.drop_eq_getElem_cons hlt]
        congr 1
        have := (List.getElem?_eq_some_iff.mp hu).2
        exact this
      rw [e5, List.map_cons, List.append_assoc]
      rfl
/-- the whole of it -/
theorem lc_app {x : Src} {r : U → U} (hx : ∀ S', App S S' → srcAt x S' = some us) (hz : us.length ≤ sizeLine) (h : ∀ u, u ∈ us → ∃ e', setT t u (wipeE e vs) = some e' ∧ ∀ S1, App S S1 → ∃ S', te e' S1 = .ok (r u) S' ∧ App S1 S') :
    ∃ S', cLc t vs mYes te e x S = .ok (us.map r) S' ∧ App S S' := by
  obtain ⟨S', q, a⟩ := lc_all (x := x) (r := r) hx hz h (us.length + 1) 0 [] S .refl rfl (by omega) (by omega)
  exact ⟨S', by rw [lc_run (hx S .refl), q]; simp, a⟩
end
end OD
end

section
set_option Elab.async false
set_option linter.all false
set_option autoImplicit false
set_option maxRecDepth 100000
set_option maxHeartbeats 4000000
/-! OD22: a walk of what is known, item by item -/
namespace OD
open PySem L2
def forL (t : Tgt) (b : SM) : List U → SM
  | [] => fun e S => .nx e S
  | u :: r => fun e S => match setT t u e with
    | none => .bad
    | some e2 => loopEnd (forL t b r) (b e2 S)
section
variable {t : Tgt} {b : SM} {us : List U}
theorem forGo_its : ∀ (n i : Nat) (e : Env) (S : Sto), i + n = us.length → forGo (.its us) t b (n + 1) i e S = forL t b (us.drop i) e S
  | n, i, e, S, h => by
    unfold forGo
    show (match us[i]? with
      | none => if i = us.length then Out.nx e S else .bad
      | some u => match setT t u e with
        | none => .bad
        | some e' => loopEnd (forGo (.its us) t b n (i + 1)) (b e' S)) = _
    cases hu : us[i]? with
    | none =>
      have hl : us.length ≤ i := List.getElem?_eq_none_iff.mp hu
      have e1 : i = us.length := by omega
      rw [List.drop_eq_nil_of_le hl]
      show (if i = us.length then Out.nx e S else .bad) = _
      rw [if_pos e1]
      rfl
    | some u =>
      have hlt : i < us.length := (List.getElem?_eq_some_iff.mp hu).1
      have e5 : us.drop i = u :: us.drop (i + 1) := by
        rw [List.drop_eq_getElem_cons hlt]
        congr 1
        exact (List.getElem?_eq_some_iff.mp hu).2
      rw [e5]
      show (match setT t u e with
        | none => Out.bad
        | some e' => loopEnd (forGo (.its us) t b n (i + 1)) (b e' S)) = (match setT t u e with
        | none => Out.bad
        | some e2 => loopEnd (forL t b (us.drop (i + 1))) (b e2 S))
      cases hs : setT t u e with
      | none => rfl
      | some e2 =>
        match n, h with
        | 0, h => exact absurd h (by omega)
        | n + 1, h =>
          have : forGo (.its us) t b (n + 1) (i + 1) = forL t b (us.drop (i + 1)) := by
            funext e3 S3
            exact forGo_its n (i + 1) e3 S3 (by omega)
          show loopEnd (forGo (.its us) t b (n + 1) (i + 1)) (b e2 S) = _
          rw [this]
theorem for_its {e : Env} {S : Sto} : cFor t b e (.its us) S = forL t b us e S := by
  rw [for_run (us := us) rfl, forGo_its us.length 0 e S (by omega), List.drop_zero]
theorem le_nx {f : Env → Sto → Out} {e : Env} {S : Sto} : loopEnd f (.nx e S) = f e S := rfl
theorem le_rt {f : Env → Sto → Out} {u : U} {S : Sto} : loopEnd f (.rt u S) = .rt u S := rfl
theorem forL_nil {e : Env} {S : Sto} : forL t b [] e S = .nx e S := rfl
theorem forL_cons {u : U} {r : List U} {e e2 : Env} {S : Sto} (h : setT t u e = some e2) : forL t b (u :: r) e S = loopEnd (forL t b r) (b e2 S) := by
  show (match setT t u e with
    | none => Out.bad
    | some e2 => loopEnd (forL t b r) (b e2 S)) = _
  rw [h]
end
end OD
end

section
set_option Elab.async false
set_option linter.all false
set_option autoImplicit false
set_option maxRecDepth 100000
set_option maxHeartbeats 40000000
/-! printed by gen.py: the reading of the defs that law_k01_whole_kinds reaches -/
namespace K01
open PySem L2 OD
abbrev prog : Program := PySem.Challenge.pw_oncedoors_k01_whole_kinds
def top (i : Nat) : Stmt := prog.main.body.getD i (.Pass ⟨0, 0, 0, 0⟩)
abbrev st_can_end : Stmt := (top 40)
abbrev st_ending_of : Stmt := (top 41)
abbrev st_Walk___init__ : Stmt := (inClass (top 37) 0)
abbrev st_Walk_block : Stmt := (inClass (top 37) 5)
abbrev st_Walk_born : Stmt := (inClass (top 37) 1)
abbrev st_fault_of : Stmt := (top 38)
abbrev st_are_unlike : Stmt := (top 12)
abbrev st_is_pair : Stmt := (top 9)
abbrev st_is_integer : Stmt := (top 7)
abbrev st_is_within : Stmt := (top 8)
abbrev st_is_kind_there : Stmt := (top 16)
abbrev st_are_params : Stmt := (top 30)
abbrev st_is_block : Stmt := (top 33)
abbrev st_is_procedure : Stmt := (top 45)
abbrev st_lay_rows : Stmt := (top 35)
abbrev st_rows_of : Stmt := (top 36)
abbrev st_targets_of : Stmt := (top 39)
abbrev st_led_to : Stmt := (top 42)
abbrev st_Program___init__ : Stmt := (inClass (top 43) 0)
abbrev st__law_bag : Stmt := (top 50)
abbrev st__law_pick : Stmt := (top 51)
abbrev st__law_changed : Stmt := (top 58)
abbrev st__law_deep : Stmt := (top 56)
abbrev st__law_grown : Stmt := (top 60)
abbrev st__law_is : Stmt := (top 55)
abbrev st__law_is_int : Stmt := (top 54)
abbrev st__law_is_kind : Stmt := (top 57)
abbrev st__law_kind_word : Stmt := (top 59)
abbrev st__law_knots : Stmt := (top 53)
abbrev st__law_some : Stmt := (top 52)
abbrev st_check_kind : Stmt := (top 18)
abbrev st_counter_of : Stmt := (top 19)
abbrev st_counter : Stmt := (top 21)
abbrev st_kind_text_of : Stmt := (top 47)
abbrev st_kind_text : Stmt := (top 48)
abbrev st_knots_of : Stmt := (top 20)
abbrev st_knots : Stmt := (top 22)
abbrev st__law_told : Stmt := (top 61)
abbrev st_is_kind : Stmt := (top 17)
abbrev st_law : Stmt := (top 62)
def ents0 : List (Str × Option Str) := [("can_end", none), ("ending_of", none), ("Walk", some "__init__"), ("Walk", some "block"), ("Walk", some "born"), ("fault_of", none), ("are_unlike", none), ("is_pair", none), ("is_integer", none), ("is_within", none), ("is_kind_there", none), ("are_params", none), ("is_block", none), ("is_procedure", none), ("lay_rows", none), ("rows_of", none), ("targets_of", none), ("led_to", none), ("Program", some "__init__"), ("_law_bag", none)]
def ents1 : List (Str × Option Str) := [("_law_pick", none), ("_law_changed", none), ("_law_deep", none), ("_law_grown", none), ("_law_is", none), ("_law_is_int", none), ("_law_is_kind", none), ("_law_kind_word", none), ("_law_knots", none), ("_law_some", none), ("check_kind", none), ("counter_of", none), ("counter", none), ("kind_text_of", none), ("kind_text", none), ("knots_of", none), ("knots", none), ("_law_told", none), ("is_kind", none), ("law", none)]
def ents2 : List (Str × Option Str) := [("DoorsError", none), ("BadProgram", none), ("NoKind", none), ("Walk", none), ("Program", none)]
def ents : List (Str × Option Str) := ents0 ++ ents1 ++ ents2
def flds : List Str := ["params_of", "made", "place", "procedures"]
/-! ### what they compute -/
def b_can_end (D : FM) : SM :=
  (mSeq (mFor (msT (mVar 0)) (.nm 2) (mIfS (asB (mOp fEq (mOp fIx (mVar 2) (mK (.int 0))) (mK (.str [101, 105, 116, 104, 101, 114])))) (mIfS (tmAnd (tmNot (mTru (mCall 2 D (mCons (mOp fIx (mVar 2) (mK (.int 1))) (mCons (mVar 1) mNil))))) (tmNot (mTru (mCall 2 D (mCons (mOp fIx (mVar 2) (mK (.int 2))) (mCons (mVar 1) mNil)))))) (mRet (mK (.bl false))) mSkip) (mIfS (tmAnd (asB (mOp fIn (mOp fIx (mVar 2) (mK (.int 0))) (mTup (mCons (mK (.str [99, 97, 108, 108])) (mCons (mK (.str [115, 116, 97, 114, 116])) mNil))))) (asB (mOp fNotIn (mOp fIx (mVar 2) (mK (.int 1))) (mVar 1)))) (mRet (mK (.bl false))) mSkip)))
  (mRet (mK (.bl true))))
def d_can_end : Nat → FM
  | 0 => fnD 3 sBadM
  | n + 1 => fnD 3 (b_can_end (d_can_end n))
def b_ending_of : SM :=
  (mSeq (mAsg (.nm 1) mDNew)
  (mSeq (mAsg (.nm 2) (mK (.bl true)))
  (mSeq (mWh (mTru (mVar 2)) (mSeq (mLkS (mVar 0) (mAsg (.nm 3) (mNew (mLc (msK (mVar 0)) (.nm 4) [4] (tmAnd (asB (mOp fNotIn (mVar 4) (mVar 1))) (mTru (mCall 2 (d_can_end 3) (mCons (mOp fDget (mVar 0) (mVar 4)) (mCons (mVar 1) mNil))))) (mVar 4)))))
  (mSeq (mExpr (mM 1 fUpdate (mVar 1) (mCons (mDc (msL (mVar 3)) (.nm 4) [4] mYes (mVar 4) (mK (.bl true))) mNil)))
  (mAsg (.nm 2) (mOp fGt (mB fLen (mCons (mVar 3) mNil)) (mK (.int 0)))))))
  (mRet (mVar 1)))))
def d_ending_of : FM := fnD 5 b_ending_of
def b_Walk___init__ : SM :=
  (mSeq (mFldS 43 0 (mVar 0) (mVar 1))
  (mSeq (mFldS 43 1 (mVar 0) (mK (.int 0)))
  (mFldS 43 2 (mVar 0) (mK (.int 0)))))
def d_Walk___init__ : FM := fnD 2 b_Walk___init__
def b_Walk_block (D : FM) : SM :=
  (mSeq (mFor (msT (mVar 2)) (.nm 3) (mSeq (mAsg (.nm 4) (mFld 43 2 (mVar 0)))
  (mSeq (mFldA 43 2 (mVar 0) (mK (.int 1)))
  (mSeq (mIfS (asB (mOp fEq (mOp fIx (mVar 3) (mK (.int 0))) (mK (.str [101, 105, 116, 104, 101, 114])))) (mSeq (mAsg (.tp [5, 6]) (mMeth 43 3 D (mVar 0) (mCons (mVar 1) (mCons (mOp fIx (mVar 3) (mK (.int 1))) mNil))))
  (mSeq (mAsg (.tp [7, 8]) (mIf (asB (mOp fIsN (mVar 5) (mK .non))) (mMeth 43 3 D (mVar 0) (mCons (mVar 1) (mCons (mOp fIx (mVar 3) (mK (.int 2))) mNil))) (mTup (mCons (mK .non) (mCons (mVar 6) mNil)))))
  (mSeq (mAsg (.nm 9) (mIf (asB (mOp fIsNN (mVar 5) (mK .non))) (mVar 5) (mVar 7)))
  (mSeq (mIfS (tmAnd (asB (mOp fIsN (mVar 9) (mK .non))) (tmOr (asB (mOp fNe (mVar 6) (mVar 8))) (tmNot (mTru (mBL fAll (mLc (msT mBad) (.nm 11) [11] mYes (mOp fIn (mVar 11) mBad))))))) (mAsg (.nm 9) (mTup (mCons (mK (.str [108, 101, 102, 116])) (mCons (mVar 4) mNil)))) mSkip)
  (mAsg (.nm 1) (mVar 6)))))) (mSeq (mAsg (.tp [10, 1]) mBad)
  (mAsg (.nm 9) (mIf (asB (mOp fIsN (mVar 10) (mK .non))) (mK .non) (mTup (mCons (mK (.str [115, 116, 101, 112])) (mCons (mVar 4) (mCons (mVar 10) mNil))))))))
  (mIfS (asB (mOp fIsNN (mVar 9) (mK .non))) (mRet (mTup (mCons (mVar 9) (mCons (mVar 1) mNil)))) mSkip)))))
  (mRet (mTup (mCons (mK .non) (mCons (mVar 1) mNil)))))
def d_Walk_block : Nat → FM
  | 0 => fnD 12 sBadM
  | n + 1 => fnD 12 (b_Walk_block (d_Walk_block n))
def b_Walk_born : SM :=
  (mSeq (mAsg (.nm 3) (mB fDict (mCons (mVar 1) mNil)))
  (mSeq (mFor (msT (mVar 2)) (.tp [4, 5]) (mSeq (mSetD (mVar 3) (mVar 4) (mTup (mCons (mVar 5) (mCons (mFld 43 1 (mVar 0)) mNil))))
  (mFldA 43 1 (mVar 0) (mK (.int 1)))))
  (mRet (mVar 3))))
def d_Walk_born : FM := fnD 6 b_Walk_born
def b_fault_of : SM :=
  (mSeq (mAsg (.nm 3) (mMake 43 2 d_Walk___init__ (mCons (mVar 2) mNil)))
  (mSeq (mAsg (.tp [4, 5]) (mMeth 43 3 (d_Walk_block 3) (mVar 3) (mCons (mMeth 43 3 d_Walk_born (mVar 3) (mCons mDNew (mCons (mVar 0) mNil))) (mCons (mVar 1) mNil))))
  (mSeq (mIfS (tmAnd (asB (mOp fIsN (mVar 4) (mK .non))) (asB (mOp fGt (mB fLen (mCons (mVar 5) mNil)) (mK (.int 0))))) (mAsg (.nm 4) (mTup (mCons (mK (.str [108, 101, 102, 116])) (mCons (mUn fNeg (mK (.int 1))) mNil)))) mSkip)
  (mRet (mVar 4)))))
def d_fault_of : FM := fnD 6 b_fault_of
def b_are_unlike : SM :=
  (mRet (mOp fEq (mLenSet (mVar 0)) (mB fLen (mCons (mVar 0) mNil))))
def d_are_unlike : FM := fnD 1 b_are_unlike
def b_is_pair : SM :=
  (mRet (mAnd (mIsT (isTy1 .tup (ownF 44)) (mVar 0)) (mOp fEq (mB fLen (mCons (mVar 0) mNil)) (mK (.int 2)))))
def d_is_pair : FM := fnD 1 b_is_pair
def b_is_integer : SM :=
  (mRet (mAnd (mIsT (isTy1 .int (ownF 44)) (mVar 0)) (mNot (mIsT (isTy1 .bl (ownF 44)) (mVar 0)))))
def d_is_integer : FM := fnD 1 b_is_integer
def b_is_within : SM :=
  (mRet (mAnd (mCall 1 d_is_integer (mCons (mVar 0) mNil)) (mChain fLe fLe (mVar 1) (mVar 0) (mVar 2))))
def d_is_within : FM := fnD 3 b_is_within
def b_is_kind_there : SM :=
  (mSeq (mAsg (.nm 1) (mLst (mCons (mVar 0) mNil)))
  (mSeq (mAsg (.nm 2) (mK (.int 0)))
  (mSeq (mWh (asB (mOp fGt (mB fLen (mCons (mVar 1) mNil)) (mK (.int 0)))) (mSeq (mAsg (.nm 3) (mM 0 fPop (mVar 1) mNil))
  (mSeq (mAug 2 fAddI (mK (.int 1)))
  (mSeq (mIfS (tmOr (asB (mOp fGt (mVar 2) (mK (.int 6)))) (tmOr (tmNot (mTru (mCall 1 d_is_pair (mCons (mVar 3) mNil)))) (tmNot (mTru (mCall 3 d_is_within (mCons (mOp fIx (mVar 3) (mK (.int 0))) (mCons (mK (.int 0)) (mCons (mK (.int 1)) mNil)))))))) (mRet (mK (.bl false))) mSkip)
  (mSeq (mIfS (tmOr (tmNot (mTru (mIsT (isTy1 .tup (ownF 44)) (mOp fIx (mVar 3) (mK (.int 1)))))) (asB (mOp fGt (mB fLen (mCons (mOp fIx (mVar 3) (mK (.int 1))) mNil)) (mK (.int 3))))) (mRet (mK (.bl false))) mSkip)
  (mExpr (mM 0 fExt (mVar 1) (mCons (mOp fIx (mVar 3) (mK (.int 1))) mNil))))))))
  (mRet (mK (.bl true))))))
def d_is_kind_there : FM := fnD 4 b_is_kind_there
def b_are_params : SM :=
  (mSeq (mIfS (tmOr (tmNot (mTru (mIsT (isTy1 .tup (ownF 44)) (mVar 0)))) (asB (mOp fGt (mB fLen (mCons (mVar 0) mNil)) (mK (.int 4))))) (mRet (mK (.bl false))) mSkip)
  (mSeq (mIfS (tmNot (mTru (mBL fAll (mLc (msT (mVar 0)) (.nm 1) [1] mYes (mAnd (mCall 1 d_is_pair (mCons (mVar 1) mNil)) (mAnd mBad (mCall 1 d_is_kind_there (mCons (mOp fIx (mVar 1) (mK (.int 1))) mNil)))))))) (mRet (mK (.bl false))) mSkip)
  (mRet (mCall 1 d_are_unlike (mCons (mNew (mLc (msT (mVar 0)) (.tp [2, 3]) [2, 3] mYes (mVar 2))) mNil)))))
def d_are_params : FM := fnD 4 b_are_params
def b_is_block : SM :=
  (mSeq (mAsg (.nm 2) (mLst (mCons (mTup (mCons (mVar 0) (mCons (mK (.int 1)) mNil))) mNil)))
  (mSeq (mAsg (.tp [3, 4]) (mTup (mCons (mK (.int 0)) (mCons (mK (.int 0)) mNil))))
  (mSeq (mWh (asB (mOp fGt (mB fLen (mCons (mVar 2) mNil)) (mK (.int 0)))) (mSeq (mAsg (.tp [5, 6]) (mM 0 fPop (mVar 2) mNil))
  (mSeq (mIfS (tmOr (tmNot (mTru (mIsT (isTy1 .tup (ownF 44)) (mVar 5)))) (tmOr (asB (mOp fGt (mB fLen (mCons (mVar 5) mNil)) (mK (.int 12)))) (asB (mOp fGt (mVar 6) (mK (.int 4)))))) (mRet (mK (.bl false))) mSkip)
  (mSeq (mAug 3 fAddI (mB fLen (mCons (mVar 5) mNil)))
  (mSeq (mFor (msT (mVar 5)) (.nm 7) (mIfS (mTru mBad) (mSeq (mAug 4 fAddI (mK (.int 1)))
  (mExpr (mM 0 fExt (mVar 2) (mCons (mLst (mCons (mTup (mCons (mOp fIx (mVar 7) (mK (.int 1))) (mCons (mOp fAdd (mVar 6) (mK (.int 1))) mNil))) (mCons (mTup (mCons (mOp fIx (mVar 7) (mK (.int 2))) (mCons (mOp fAdd (mVar 6) (mK (.int 1))) mNil))) mNil))) mNil)))) (mIfS (tmNot (mTru mBad)) (mRet (mK (.bl false))) mSkip)))
  (mIfS (tmOr (asB (mOp fGt (mVar 3) (mK (.int 24)))) (asB (mOp fGt (mVar 4) (mK (.int 6))))) (mRet (mK (.bl false))) mSkip))))))
  (mRet (mK (.bl true))))))
def d_is_block : FM := fnD 8 b_is_block
def b_is_procedure : SM :=
  (mSeq (mIfS (tmOr (tmNot (mTru (mCall 1 d_is_pair (mCons (mVar 0) mNil)))) (tmNot (mTru (mCall 1 d_are_params (mCons (mOp fIx (mVar 0) (mK (.int 0))) mNil))))) (mRet (mK (.bl false))) mSkip)
  (mRet (mCall 2 d_is_block (mCons (mOp fIx (mVar 0) (mK (.int 1))) (mCons (mK (.lam 0 [])) mNil)))))
def d_is_procedure : FM := fnD 2 b_is_procedure
def b_lay_rows (D : FM) : SM :=
  (mFor (msEnT (mCons (mVar 1) mNil)) (.tp [3, 4]) (mSeq (mAsg (.nm 5) (mB fLen (mCons (mVar 0) mNil)))
  (mSeq (mAsg (.nm 6) (mIf (asB (mOp fLt (mOp fAdd (mVar 3) (mK (.int 1))) (mB fLen (mCons (mVar 1) mNil)))) (mOp fAdd (mVar 5) mBad) (mVar 2)))
  (mSeq (mExpr (mM 0 fAppend (mVar 0) (mCons (mTup (mCons (mVar 4) (mCons (mTup (mCons (mVar 6) mNil)) mNil))) mNil)))
  (mIfS (asB (mOp fEq (mOp fIx (mVar 4) (mK (.int 0))) (mK (.str [101, 105, 116, 104, 101, 114])))) (mSeq (mAsg (.nm 7) (mLst mNil))
  (mSeq (mFor (msT (mSl (mVar 4) (moS (mK (.int 1))) moN)) (.nm 8) (mSeq (mExpr (mM 0 fAppend (mVar 7) (mCons (mIf (asB (mOp fGt (mB fLen (mCons (mVar 8) mNil)) (mK (.int 0)))) (mB fLen (mCons (mVar 0) mNil)) (mVar 6)) mNil)))
  (mExpr (mCall 3 D (mCons (mVar 0) (mCons (mVar 8) (mCons (mVar 6) mNil)))))))
  (mSetI (mVar 0) (mVar 5) (mTup (mCons (mVar 4) (mCons (mB fTuple (mCons (mVar 7) mNil)) mNil)))))) mSkip)))))
def d_lay_rows : Nat → FM
  | 0 => fnD 9 sBadM
  | n + 1 => fnD 9 (b_lay_rows (d_lay_rows n))
def b_rows_of : SM :=
  (mSeq (mAsg (.nm 1) (mLst mNil))
  (mSeq (mExpr (mCall 3 (d_lay_rows 3) (mCons (mVar 1) (mCons (mVar 0) (mCons (mK .non) mNil)))))
  (mRet (mVar 1))))
def d_rows_of : FM := fnD 2 b_rows_of
def b_targets_of : SM :=
  (mRet (mNew (mLc (msL (mCall 1 d_rows_of (mCons (mVar 0) mNil))) (.tp [1, 2]) [1, 2] (asB (mOp fIn (mOp fIx (mVar 1) (mK (.int 0))) (mTup (mCons (mK (.str [99, 97, 108, 108])) (mCons (mK (.str [115, 116, 97, 114, 116])) mNil))))) (mOp fIx (mVar 1) (mK (.int 1))))))
def d_targets_of : FM := fnD 3 b_targets_of
def b_led_to : SM :=
  (mSeq (mAsg (.nm 2) (mLst (mCons (mVar 1) mNil)))
  (mSeq (mAsg (.nm 3) (mLst (mCons (mVar 1) mNil)))
  (mSeq (mWh (asB (mOp fGt (mB fLen (mCons (mVar 3) mNil)) (mK (.int 0)))) (mFor (msL (mCall 1 d_targets_of (mCons (mOp fDget (mVar 0) (mM 0 fPop (mVar 3) mNil)) mNil))) (.nm 4) (mIfS (asB (mOp fNotIn (mVar 4) (mVar 2))) (mSeq (mExpr (mM 0 fAppend (mVar 2) (mCons (mVar 4) mNil)))
  (mExpr (mM 0 fAppend (mVar 3) (mCons (mVar 4) mNil)))) mSkip)))
  (mRet (mVar 2)))))
def d_led_to : FM := fnD 5 b_led_to
def b_Program___init__ : SM :=
  (mSeq (mIfS (tmOr (tmNot (mTru (mIsT (isTy1 .tup (ownF 44)) (mVar 1)))) (tmNot (asB (mChain fLe fLe (mK (.int 1)) (mB fLen (mCons (mVar 1) mNil)) (mK (.int 8)))))) sBadM mSkip)
  (mSeq (mFor (msEnT (mCons (mVar 1) mNil)) (.tp [2, 3]) (mIfS (tmOr (tmNot (mTru (mCall 2 d_is_procedure (mCons (mVar 3) (mCons (mB fLen (mCons (mVar 1) mNil)) mNil))))) (tmAnd (asB (mOp fEq (mVar 2) (mK (.int 0)))) (asB (mOp fGt (mB fLen (mCons (mOp fIx (mVar 3) (mK (.int 0))) mNil)) (mK (.int 0)))))) sBadM mSkip))
  (mSeq (mFor (msEnT (mCons (mVar 1) mNil)) (.tp [2, 3]) (mSeq (mAsg (.nm 4) (mCall 3 d_fault_of (mCons (mOp fIx (mVar 3) (mK (.int 0))) (mCons (mOp fIx (mVar 3) (mK (.int 1))) (mCons (mK (.lam 0 [])) mNil)))))
  (mIfS (asB (mOp fIsNN (mVar 4) (mK .non))) sBadM mSkip)))
  (mSeq (mAsg (.nm 5) (mDc (msEnT (mCons (mVar 1) mNil)) (.tp [2, 3]) [2, 3] mYes (mVar 2) (mOp fIx (mVar 3) (mK (.int 1)))))
  (mSeq (mAsg (.nm 6) (mCall 1 d_ending_of (mCons (mVar 5) mNil)))
  (mSeq (mLkS (mVar 5) (mFor (msK (mVar 5)) (.nm 2) (mIfS (asB (mOp fNotIn (mVar 2) (mVar 6))) sBadM mSkip)))
  (mSeq (mAsg (.nm 7) (mCall 2 d_led_to (mCons (mVar 5) (mCons (mK (.int 0)) mNil))))
  (mSeq (mLkS (mVar 5) (mFor (msK (mVar 5)) (.nm 2) (mIfS (asB (mOp fNotIn (mVar 2) (mVar 7))) sBadM mSkip)))
  (mFldS 44 3 (mVar 0) (mVar 1))))))))))
def d_Program___init__ : FM := fnD 8 b_Program___init__
def b__law_bag : SM :=
  (mSeq (mAsg (.nm 1) (mOp fAdd (mK (.int 37)) (mB fLen (mCons (mVar 0) mNil))))
  (mSeq (mFor (msL (mSl (mVar 0) moN (moS (mK (.int 63))))) (.nm 2) (mAsg (.nm 1) (mOp fMod (mB fInt (mCons (mOp fAdd (mOp fAdd (mOp fMul (mVar 1) (mK (.int 69621))) (mOp fMod (mB fInt (mCons (mVar 2) mNil)) (mK (.int 1000003)))) (mK (.int 7))) mNil)) (mK (.int 2147483647)))))
  (mSeq (mAsg (.nm 3) (mNew (mLc (msL (mSl (mVar 0) moN (moS (mK (.int 63))))) (.nm 2) [2] (asB (mOp fGe (mB fAbs (mCons (mB fInt (mCons (mVar 2) mNil)) mNil)) (mOp fPow (mK (.int 10)) (mK (.int 18))))) (mB fAbs (mCons (mB fInt (mCons (mVar 2) mNil)) mNil)))))
  (mSeq (mAsg (.nm 4) (mK .non))
  (mSeq (mIfS (tmAnd (asB (mOp fLt (mB fLen (mCons (mVar 0) mNil)) (mK (.int 2)))) (asB (mOp fEq (mB fLen (mCons (mVar 3) mNil)) (mK (.int 0))))) (mAsg (.nm 4) (mB fAbs (mCons (mBL fSumL (mLc (msL (mVar 0)) (.nm 2) [2] mYes (mB fInt (mCons (mVar 2) mNil)))) mNil))) mSkip)
  (mRet (mLst (mCons (mVar 1) (mCons (mK (.int 1)) (mCons (mVar 3) (mCons (mVar 4) mNil)))))))))))
def d__law_bag : FM := fnD 5 b__law_bag
def b__law_pick : SM :=
  (mSeq (mIfS (asB (mOp fIsNN (mOp fIx (mVar 0) (mK (.int 3))) (mK .non))) (mRet (mOp fMod (mB fInt (mCons (mOp fIx (mVar 0) (mK (.int 3))) mNil)) (mVar 1))) mSkip)
  (mSeq (mSetI (mVar 0) (mK (.int 1)) (mOp fAdd (mOp fIx (mVar 0) (mK (.int 1))) (mK (.int 1))))
  (mSeq (mAsg (.nm 2) (mOp fIx (mVar 0) (mK (.int 2))))
  (mSeq (mIfS (asB (mOp fGt (mB fLen (mCons (mVar 2) mNil)) (mK (.int 0)))) (mSeq (mAsg (.nm 3) (mOp fMod (mB fInt (mCons (mOp fIx (mVar 2) (mK (.int 0))) mNil)) (mVar 1)))
  (mSeq (mSetI (mVar 2) (mK (.int 0)) (mOp fDiv (mB fInt (mCons (mOp fIx (mVar 2) (mK (.int 0))) mNil)) (mVar 1)))
  (mSeq (mIfS (asB (mOp fEq (mOp fIx (mVar 2) (mK (.int 0))) (mK (.int 0)))) (mExpr (mM 0 fPopAt (mVar 2) (mCons (mK (.int 0)) mNil))) mSkip)
  (mRet (mVar 3))))) mSkip)
  (mSeq (mAsg (.nm 4) (mOp fMod (mB fInt (mCons (mOp fMul (mOp fAdd (mOp fIx (mVar 0) (mK (.int 0))) (mOp fMul (mK (.int 7919)) (mOp fIx (mVar 0) (mK (.int 1))))) (mK (.int 48271))) mNil)) (mK (.int 2147483647))))
  (mSeq (mAsg (.nm 4) (mOp fMod (mB fInt (mCons (mOp fMul (mVar 4) (mOp fAdd (mOp fDiv (mVar 4) (mK (.int 1009))) (mK (.int 69621)))) mNil)) (mK (.int 2147483647))))
  (mSeq (mAsg (.nm 4) (mOp fMod (mB fInt (mCons (mOp fMul (mVar 4) (mOp fAdd (mOp fDiv (mVar 4) (mK (.int 2003))) (mK (.int 40692)))) mNil)) (mK (.int 2147483399))))
  (mRet (mOp fMod (mB fInt (mCons (mOp fDiv (mVar 4) (mK (.int 16))) mNil)) (mVar 1))))))))))
def d__law_pick : FM := fnD 5 b__law_pick
def b__law_changed (D : FM) : SM :=
  (mSeq (mIfS (tmOr (tmNot (mTru (mIsT (isTy1 .tup (ownF 44)) (mVar 1)))) (tmOr (asB (mOp fEq (mB fLen (mCons (mVar 1) mNil)) (mK (.int 0)))) (tmOr (asB (mOp fEq (mVar 3) (mK (.int 0)))) (asB (mOp fEq (mCall 2 d__law_pick (mCons (mVar 0) (mCons (mK (.int 6)) mNil))) (mK (.int 0))))))) (mRet (mVar 2)) mSkip)
  (mSeq (mAsg (.nm 4) (mCall 2 d__law_pick (mCons (mVar 0) (mCons (mB fLen (mCons (mVar 1) mNil)) mNil))))
  (mSeq (mAsg (.nm 5) (mCall 2 d__law_pick (mCons (mVar 0) (mCons (mK (.int 10)) mNil))))
  (mSeq (mIfS (asB (mOp fEq (mVar 5) (mK (.int 0)))) (mRet (mOp fAdd (mSl (mVar 1) moN (moS (mVar 4))) (mSl (mVar 1) (moS (mOp fAdd (mVar 4) (mK (.int 1)))) moN))) mSkip)
  (mSeq (mIfS (asB (mOp fEq (mVar 5) (mK (.int 1)))) (mRet (mOp fAdd (mOp fAdd (mSl (mVar 1) moN (moS (mVar 4))) (mSl (mVar 1) (moS (mVar 4)) (moS (mOp fAdd (mVar 4) (mK (.int 1)))))) (mSl (mVar 1) (moS (mVar 4)) moN))) mSkip)
  (mSeq (mIfS (asB (mOp fEq (mVar 5) (mK (.int 2)))) (mRet (mOp fAdd (mOp fAdd (mSl (mVar 1) moN (moS (mVar 4))) (mUn fRevT (mSl (mVar 1) (moS (mVar 4)) (moS (mOp fAdd (mVar 4) (mK (.int 2))))))) (mSl (mVar 1) (moS (mOp fAdd (mVar 4) (mK (.int 2)))) moN))) mSkip)
  (mRet (mOp fAdd (mOp fAdd (mSl (mVar 1) moN (moS (mVar 4))) (mTup (mCons (mCall 4 D (mCons (mVar 0) (mCons (mOp fIx (mVar 1) (mVar 4)) (mCons (mVar 2) (mCons (mOp fSub (mVar 3) (mK (.int 1))) mNil))))) mNil))) (mSl (mVar 1) (moS (mOp fAdd (mVar 4) (mK (.int 1)))) moN)))))))))
def d__law_changed : Nat → FM
  | 0 => fnD 6 sBadM
  | n + 1 => fnD 6 (b__law_changed (d__law_changed n))
def b__law_deep : SM :=
  (mSeq (mAsg (.nm 0) (mTup mNil))
  (mSeq (mFor (msR1 (mCons (mK (.int 24)) mNil)) (.nm 1) (mAsg (.nm 0) (mTup (mCons (mVar 0) mNil))))
  (mRet (mVar 0))))
def d__law_deep : FM := fnD 2 b__law_deep
def b__law_grown (D : FM) : SM :=
  (mSeq (mAsg (.nm 2) (mLst mNil))
  (mSeq (mAsg (.nm 3) (mOp fSub (mVar 1) (mK (.int 1))))
  (mSeq (mWh (asB (mOp fGt (mVar 3) (mK (.int 0)))) (mSeq (mAsg (.nm 4) (mOp fAdd (mK (.int 1)) (mCall 2 d__law_pick (mCons (mVar 0) (mCons (mVar 3) mNil)))))
  (mSeq (mExpr (mM 0 fAppend (mVar 2) (mCons (mCall 2 D (mCons (mVar 0) (mCons (mVar 4) mNil))) mNil)))
  (mAsg (.nm 3) (mOp fSub (mVar 3) (mVar 4))))))
  (mRet (mTup (mCons (mCall 2 d__law_pick (mCons (mVar 0) (mCons (mK (.int 2)) mNil))) (mCons (mB fTuple (mCons (mVar 2) mNil)) mNil)))))))
def d__law_grown : Nat → FM
  | 0 => fnD 5 sBadM
  | n + 1 => fnD 5 (b__law_grown (d__law_grown n))
def b__law_is (D : FM) : SM :=
  (mSeq (mIfS (mTru (mIsT (isTy2 .tup .lst ownN) (mVar 1))) (mSeq (mIfS (tmOr (asB (mOp fNe (mIsT (isTy1 .tup (ownF 44)) (mVar 0)) (mIsT (isTy1 .tup (ownF 44)) (mVar 1)))) (asB (mOp fNe (mIsT (isTy1 .lst (ownF 44)) (mVar 0)) (mIsT (isTy1 .lst (ownF 44)) (mVar 1))))) (mRet (mK (.bl false))) mSkip)
  (mRet (mAnd (mOp fEq (mB fLen (mCons (mVar 0) mNil)) (mB fLen (mCons (mVar 1) mNil))) (mBL fAll (mLc (msZip (mCons (mVar 0) (mCons (mVar 1) mNil))) (.tp [2, 3]) [2, 3] mYes (mCall 2 D (mCons (mVar 2) (mCons (mVar 3) mNil)))))))) mSkip)
  (mRet (mAnd (mOp fEq (mIsT (isTy1 .bl (ownF 44)) (mVar 0)) (mIsT (isTy1 .bl (ownF 44)) (mVar 1))) (mOp fEq (mVar 0) (mVar 1)))))
def d__law_is : Nat → FM
  | 0 => fnD 4 sBadM
  | n + 1 => fnD 4 (b__law_is (d__law_is n))
def b__law_is_int : SM :=
  (mRet (mAnd (mIsT (isTy1 .int (ownF 44)) (mVar 0)) (mAnd (mNot (mIsT (isTy1 .bl (ownF 44)) (mVar 0))) (mChain fLe fLe (mVar 1) (mVar 0) (mVar 2)))))
def d__law_is_int : FM := fnD 3 b__law_is_int
def b__law_is_kind : SM :=
  (mSeq (mAsg (.nm 1) (mLst (mCons (mVar 0) mNil)))
  (mSeq (mAsg (.nm 2) (mK (.int 0)))
  (mSeq (mWh (asB (mOp fGt (mB fLen (mCons (mVar 1) mNil)) (mK (.int 0)))) (mSeq (mAsg (.nm 3) (mM 0 fPop (mVar 1) mNil))
  (mSeq (mAsg (.nm 2) (mOp fAdd (mVar 2) (mK (.int 1))))
  (mSeq (mIfS (tmOr (asB (mOp fGt (mVar 2) (mK (.int 6)))) (tmOr (tmNot (mTru (mIsT (isTy1 .tup (ownF 44)) (mVar 3)))) (tmOr (asB (mOp fNe (mB fLen (mCons (mVar 3) mNil)) (mK (.int 2)))) (tmNot (mTru (mCall 3 d__law_is_int (mCons (mOp fIx (mVar 3) (mK (.int 0))) (mCons (mK (.int 0)) (mCons (mK (.int 1)) mNil))))))))) (mRet (mK (.bl false))) mSkip)
  (mSeq (mIfS (tmOr (tmNot (mTru (mIsT (isTy1 .tup (ownF 44)) (mOp fIx (mVar 3) (mK (.int 1)))))) (asB (mOp fGt (mB fLen (mCons (mOp fIx (mVar 3) (mK (.int 1))) mNil)) (mK (.int 3))))) (mRet (mK (.bl false))) mSkip)
  (mExpr (mM 0 fExt (mVar 1) (mCons (mB fList (mCons (mOp fIx (mVar 3) (mK (.int 1))) mNil)) mNil))))))))
  (mRet (mK (.bl true))))))
def d__law_is_kind : FM := fnD 4 b__law_is_kind
def b__law_kind_word (D : FM) : SM :=
  (mSeq (mAsg (.nm 1) (mOp fAdd (mOp fAdd (mK (.str [40])) (mM 2 fJoin (mK (.str [44])) (mCons (mNew (mLc (msT (mOp fIx (mVar 0) (mK (.int 1)))) (.nm 2) [2] mYes (mCall 1 D (mCons (mVar 2) mNil)))) mNil))) (mK (.str [41]))))
  (mRet (mOp fAdd (mOp fIx (mK (.str [43, 45])) (mOp fIx (mVar 0) (mK (.int 0)))) (mIf (asB (mOp fNe (mOp fIx (mVar 0) (mK (.int 1))) (mTup mNil))) (mVar 1) (mK (.str []))))))
def d__law_kind_word : Nat → FM
  | 0 => fnD 3 sBadM
  | n + 1 => fnD 3 (b__law_kind_word (d__law_kind_word n))
def b__law_knots (D : FM) : SM :=
  (mSeq (mAsg (.nm 1) (mLst (mCons (mTup mNil) mNil)))
  (mSeq (mFor (msEnT (mCons (mOp fIx (mVar 0) (mK (.int 1))) mNil)) (.tp [2, 3]) (mExpr (mExt (mVar 1) (mLc (msL (mCall 1 D (mCons (mVar 3) mNil))) (.nm 4) [4] mYes (mOp fAdd (mTup (mCons (mVar 2) mNil)) (mVar 4))))))
  (mRet (mB fSort (mCons (mVar 1) mNil)))))
def d__law_knots : Nat → FM
  | 0 => fnD 5 sBadM
  | n + 1 => fnD 5 (b__law_knots (d__law_knots n))
def b__law_some : SM :=
  (mRet (mOp fIx (mVar 1) (mCall 2 d__law_pick (mCons (mVar 0) (mCons (mB fLen (mCons (mVar 1) mNil)) mNil)))))
def d__law_some : FM := fnD 2 b__law_some
def b_check_kind : SM :=
  (mIfS (tmNot (mTru (mCall 1 d_is_kind_there (mCons (mVar 0) mNil)))) (mRaise0 42) mSkip)
def d_check_kind : FM := fnD 1 b_check_kind
def b_counter_of : SM :=
  (mRet (mTup (mCons (mOp fSub (mK (.int 1)) (mOp fIx (mVar 0) (mK (.int 0)))) (mCons (mOp fIx (mVar 0) (mK (.int 1))) mNil))))
def d_counter_of : FM := fnD 1 b_counter_of
def b_counter : SM :=
  (mSeq (mExpr (mCall 1 d_check_kind (mCons (mVar 0) mNil)))
  (mRet (mCall 1 d_counter_of (mCons (mVar 0) mNil))))
def d_counter : FM := fnD 1 b_counter
def b_kind_text_of (D : FM) : SM :=
  (mSeq (mAsg (.nm 1) (mIf (asB (mOp fEq (mOp fIx (mVar 0) (mK (.int 0))) (mK (.int 0)))) (mK (.str [43])) (mK (.str [45]))))
  (mSeq (mIfS (asB (mOp fEq (mB fLen (mCons (mOp fIx (mVar 0) (mK (.int 1))) mNil)) (mK (.int 0)))) (mRet (mVar 1)) mSkip)
  (mRet (mOp fAdd (mOp fAdd (mOp fAdd (mVar 1) (mK (.str [40]))) (mM 2 fJoin (mK (.str [44])) (mCons (mNew (mLc (msT (mOp fIx (mVar 0) (mK (.int 1)))) (.nm 2) [2] mYes (mCall 1 D (mCons (mVar 2) mNil)))) mNil))) (mK (.str [41]))))))
def d_kind_text_of : Nat → FM
  | 0 => fnD 3 sBadM
  | n + 1 => fnD 3 (b_kind_text_of (d_kind_text_of n))
def b_kind_text : SM :=
  (mSeq (mExpr (mCall 1 d_check_kind (mCons (mVar 0) mNil)))
  (mRet (mCall 1 (d_kind_text_of 10) (mCons (mVar 0) mNil))))
def d_kind_text : FM := fnD 1 b_kind_text
def b_knots_of : SM :=
  (mSeq (mAsg (.nm 1) (mLst mNil))
  (mSeq (mAsg (.nm 2) (mLst (mCons (mTup (mCons (mTup mNil) (mCons (mVar 0) mNil))) mNil)))
  (mSeq (mWh (asB (mOp fGt (mB fLen (mCons (mVar 2) mNil)) (mK (.int 0)))) (mSeq (mAsg (.tp [3, 4]) (mM 0 fPop (mVar 2) mNil))
  (mSeq (mExpr (mM 0 fAppend (mVar 1) (mCons (mVar 3) mNil)))
  (mExpr (mExt (mVar 2) (mLc (msEnT (mCons (mOp fIx (mVar 4) (mK (.int 1))) mNil)) (.tp [5, 6]) [5, 6] mYes (mTup (mCons (mOp fAdd (mVar 3) (mTup (mCons (mVar 5) mNil))) (mCons (mVar 6) mNil)))))))))
  (mRet (mB fSort (mCons (mVar 1) mNil))))))
def d_knots_of : FM := fnD 7 b_knots_of
def b_knots : SM :=
  (mSeq (mExpr (mCall 1 d_check_kind (mCons (mVar 0) mNil)))
  (mRet (mCall 1 d_knots_of (mCons (mVar 0) mNil))))
def d_knots : FM := fnD 1 b_knots
def tab__law_told_ask : Nat → Option (Nat × FM)
  | 32 => some (1, d_counter)
  | 36 => some (1, d_knots)
  | 34 => some (1, d_kind_text)
  | _ => none
def ts_told : SM := (mAsg (.nm 2) (mTup (mCons (mK (.str [116, 111, 108, 100])) (mCons (mCallV tab__law_told_ask 0 (mCons (mVar 1) mNil)) mNil))))
def ctc_told : Nat → Option Bool := fun c => if c = 42 then some true else none
def sd_told : Nat → Option (Nat × U) → SM := fun c f env S => match f with
  | none => if env.length = 5 then match (mAsg (.nm 2) (mTup (mCons (mIf (mTru (mVar 4)) (mK (.str [107, 105, 110, 100])) (mK (.str [111, 116, 104, 101, 114]))) (mCons (mK .non) mNil)))) ((env.set 3 none).set 4 (some (.bl true))) S with
    | .nx e' S' => .nx (e'.set 3 none) S'
    | _ => .bad else .bad
  | some _ => .bad
def b__law_told : SM :=
  (mSeq (mAsg (.nm 2) (mTup (mCons (mK (.str [111, 116, 104, 101, 114])) (mCons (mK .non) mNil))))
  (mSeq (mTry ctc_told ts_told sd_told)
  (mRet (mVar 2))))
def d__law_told : FM := fnD 5 b__law_told
def b_is_kind : SM :=
  (mRet (mCall 1 d_is_kind_there (mCons (mVar 0) mNil)))
def d_is_kind : FM := fnD 1 b_is_kind
def b_law : SM :=
  (mSeq (mAsg (.nm 1) (mCall 1 d__law_bag (mCons (mVar 0) mNil)))
  (mSeq (mAsg (.nm 2) (mMake 44 2 d_Program___init__ (mCons (mTup (mCons (mTup (mCons (mTup mNil) (mCons (mTup mNil) mNil))) mNil)) mNil)))
  (mSeq (mFor (msR1 (mCons (mK (.int 6)) mNil)) (.nm 3) (mSeq (mAsg (.nm 4) (mCall 2 (d__law_grown 10) (mCons (mVar 1) (mCons (mOp fAdd (mK (.int 1)) (mCall 2 d__law_pick (mCons (mVar 1) (mCons (mK (.int 7)) mNil)))) mNil))))
  (mSeq (mAsg (.nm 5) (mLst (mCons (mK .non) (mCons (mK (.bl true)) (mCons (mK (.bl false)) (mCons (mK (.int 2)) (mCons (mUn fNeg (mK (.int 1))) (mCons (mK (.str [43])) (mCons (mTup mNil) (mCons (mLst mNil) (mCons mDNew (mCons (mTup (mCons (mK (.int 0)) mNil)) (mCons (mTup (mCons (mK (.int 0)) (mCons (mTup mNil) mNil))) (mCons (mTup (mCons (mK (.int 1)) (mCons (mTup mNil) mNil))) (mCons (mLst (mCons (mK (.int 0)) (mCons (mTup mNil) mNil))) (mCons (mTup (mCons (mK (.int 0)) (mCons (mLst mNil) mNil))) (mCons (mTup (mCons (mK (.bl true)) (mCons (mTup mNil) mNil))) (mCons (mTup (mCons (mK (.int 0)) (mCons (mK .non) mNil))) mNil))))))))))))))))))
  (mSeq (mAsg (.nm 5) (mOp fAdd (mVar 5) (mLst (mCons (mTup (mCons (mK (.int 2)) (mCons (mTup mNil) mNil))) (mCons (mTup (mCons (mK (.int 0)) (mCons (mTup mNil) (mCons (mTup mNil) mNil)))) (mCons (mTup (mCons (mTup (mCons (mK (.int 0)) (mCons (mTup mNil) mNil))) mNil)) (mCons (mTup (mCons (mK (.int 0)) (mCons (mOp fMulT (mTup (mCons (mTup (mCons (mK (.int 0)) (mCons (mTup mNil) mNil))) mNil)) (mK (.int 4))) mNil))) (mCons (mVar 2) (mCons (mCall 0 d__law_deep mNil) (mCons (mOp fPow (mK (.int 10)) (mK (.int 29))) (mCons (mK (.int 0)) (mCons (mK (.int 1)) mNil))))))))))))
  (mSeq (mFor (msR1 (mCons (mCall 2 d__law_pick (mCons (mVar 1) (mCons (mK (.int 3)) mNil))) mNil)) (.nm 6) (mAsg (.nm 4) (mCall 4 (d__law_changed 10) (mCons (mVar 1) (mCons (mVar 4) (mCons (mCall 2 d__law_some (mCons (mVar 1) (mCons (mVar 5) mNil))) (mCons (mK (.int 8)) mNil)))))))
  (mSeq (mAsg (.nm 7) (mCall 1 d__law_is_kind (mCons (mVar 4) mNil)))
  (mSeq (mIfS (tmNot (mTru (mCall 2 (d__law_is 24) (mCons (mCall 1 d_is_kind (mCons (mVar 4) mNil)) (mCons (mVar 7) mNil))))) (mRet (mK (.bl false))) mSkip)
  (mIfS (tmNot (mTru (mVar 7))) (mIfS (mTru (mBL fAny (mLc (msL (mLst (mCons (mK (.fn 32)) (mCons (mK (.fn 36)) (mCons (mK (.fn 34)) mNil))))) (.nm 9) [9] mYes (mOp fNe (mCall 2 d__law_told (mCons (mVar 9) (mCons (mVar 4) mNil))) (mTup (mCons (mK (.str [107, 105, 110, 100])) (mCons (mK .non) mNil))))))) (mRet (mK (.bl false))) mSkip) (mSeq (mAsg (.nm 8) (mCall 1 d_knots (mCons (mVar 4) mNil)))
  (mSeq (mIfS (tmOr (tmNot (mTru (mCall 2 (d__law_is 24) (mCons (mCall 1 d_counter (mCons (mVar 4) mNil)) (mCons (mTup (mCons (mOp fSub (mK (.int 1)) (mOp fIx (mVar 4) (mK (.int 0)))) (mCons (mOp fIx (mVar 4) (mK (.int 1))) mNil))) mNil))))) (asB (mOp fNe (mCall 1 d_counter (mCons (mCall 1 d_counter (mCons (mVar 4) mNil)) mNil)) (mVar 4)))) (mRet (mK (.bl false))) mSkip)
  (mSeq (mIfS (tmOr (tmNot (mTru (mCall 2 (d__law_is 24) (mCons (mVar 8) (mCons (mCall 1 (d__law_knots 10) (mCons (mVar 4) mNil)) mNil))))) (asB (mOp fNe (mCall 1 d_kind_text (mCons (mVar 4) mNil)) (mCall 1 (d__law_kind_word 10) (mCons (mVar 4) mNil))))) (mRet (mK (.bl false))) mSkip)
  (mSeq (mExpr (mM 0 fAppend (mVar 8) (mCons (mTup mNil) mNil)))
  (mIfS (asB (mOp fEq (mCall 1 d_knots (mCons (mVar 4) mNil)) (mVar 8))) (mRet (mK (.bl false))) mSkip)))))))))))))
  (mRet (mK (.bl true))))))
def d_law : FM := fnD 10 b_law
/-! ### what the walk asks of the text -/
structure Tx (mg : Str → Option Value) (C : Ct) : Prop where
  g_can_end : mg "can_end" = some (.ref (C.adr 0))
  d_can_end : FdD C 0 "can_end" "can_end" st_can_end
  g_ending_of : mg "ending_of" = some (.ref (C.adr 1))
  d_ending_of : FdD C 1 "ending_of" "ending_of" st_ending_of
  d_Walk___init__ : FdD C 2 "__init__" "Walk.__init__" st_Walk___init__
  d_Walk_block : FdD C 3 "block" "Walk.block" st_Walk_block
  d_Walk_born : FdD C 4 "born" "Walk.born" st_Walk_born
  g_fault_of : mg "fault_of" = some (.ref (C.adr 5))
  d_fault_of : FdD C 5 "fault_of" "fault_of" st_fault_of
  g_are_unlike : mg "are_unlike" = some (.ref (C.adr 6))
  d_are_unlike : FdD C 6 "are_unlike" "are_unlike" st_are_unlike
  g_is_pair : mg "is_pair" = some (.ref (C.adr 7))
  d_is_pair : FdD C 7 "is_pair" "is_pair" st_is_pair
  g_is_integer : mg "is_integer" = some (.ref (C.adr 8))
  d_is_integer : FdD C 8 "is_integer" "is_integer" st_is_integer
  g_is_within : mg "is_within" = some (.ref (C.adr 9))
  d_is_within : FdD C 9 "is_within" "is_within" st_is_within
  g_is_kind_there : mg "is_kind_there" = some (.ref (C.adr 10))
  d_is_kind_there : FdD C 10 "is_kind_there" "is_kind_there" st_is_kind_there
  g_are_params : mg "are_params" = some (.ref (C.adr 11))
  d_are_params : FdD C 11 "are_params" "are_params" st_are_params
  g_is_block : mg "is_block" = some (.ref (C.adr 12))
  d_is_block : FdD C 12 "is_block" "is_block" st_is_block
  g_is_procedure : mg "is_procedure" = some (.ref (C.adr 13))
  d_is_procedure : FdD C 13 "is_procedure" "is_procedure" st_is_procedure
  g_lay_rows : mg "lay_rows" = some (.ref (C.adr 14))
  d_lay_rows : FdD C 14 "lay_rows" "lay_rows" st_lay_rows
  g_rows_of : mg "rows_of" = some (.ref (C.adr 15))
  d_rows_of : FdD C 15 "rows_of" "rows_of" st_rows_of
  g_targets_of : mg "targets_of" = some (.ref (C.adr 16))
  d_targets_of : FdD C 16 "targets_of" "targets_of" st_targets_of
  g_led_to : mg "led_to" = some (.ref (C.adr 17))
  d_led_to : FdD C 17 "led_to" "led_to" st_led_to
  d_Program___init__ : FdD C 18 "__init__" "Program.__init__" st_Program___init__
  g__law_bag : mg "_law_bag" = some (.ref (C.adr 19))
  d__law_bag : FdD C 19 "_law_bag" "_law_bag" st__law_bag
  g__law_pick : mg "_law_pick" = some (.ref (C.adr 20))
  d__law_pick : FdD C 20 "_law_pick" "_law_pick" st__law_pick
  g__law_changed : mg "_law_changed" = some (.ref (C.adr 21))
  d__law_changed : FdD C 21 "_law_changed" "_law_changed" st__law_changed
  g__law_deep : mg "_law_deep" = some (.ref (C.adr 22))
  d__law_deep : FdD C 22 "_law_deep" "_law_deep" st__law_deep
  g__law_grown : mg "_law_grown" = some (.ref (C.adr 23))
  d__law_grown : FdD C 23 "_law_grown" "_law_grown" st__law_grown
  g__law_is : mg "_law_is" = some (.ref (C.adr 24))
  d__law_is : FdD C 24 "_law_is" "_law_is" st__law_is
  g__law_is_int : mg "_law_is_int" = some (.ref (C.adr 25))
  d__law_is_int : FdD C 25 "_law_is_int" "_law_is_int" st__law_is_int
  g__law_is_kind : mg "_law_is_kind" = some (.ref (C.adr 26))
  d__law_is_kind : FdD C 26 "_law_is_kind" "_law_is_kind" st__law_is_kind
  g__law_kind_word : mg "_law_kind_word" = some (.ref (C.adr 27))
  d__law_kind_word : FdD C 27 "_law_kind_word" "_law_kind_word" st__law_kind_word
  g__law_knots : mg "_law_knots" = some (.ref (C.adr 28))
  d__law_knots : FdD C 28 "_law_knots" "_law_knots" st__law_knots
  g__law_some : mg "_law_some" = some (.ref (C.adr 29))
  d__law_some : FdD C 29 "_law_some" "_law_some" st__law_some
  g_check_kind : mg "check_kind" = some (.ref (C.adr 30))
  d_check_kind : FdD C 30 "check_kind" "check_kind" st_check_kind
  g_counter_of : mg "counter_of" = some (.ref (C.adr 31))
  d_counter_of : FdD C 31 "counter_of" "counter_of" st_counter_of
  g_counter : mg "counter" = some (.ref (C.adr 32))
  d_counter : FdD C 32 "counter" "counter" st_counter
  g_kind_text_of : mg "kind_text_of" = some (.ref (C.adr 33))
  d_kind_text_of : FdD C 33 "kind_text_of" "kind_text_of" st_kind_text_of
  g_kind_text : mg "kind_text" = some (.ref (C.adr 34))
  d_kind_text : FdD C 34 "kind_text" "kind_text" st_kind_text
  g_knots_of : mg "knots_of" = some (.ref (C.adr 35))
  d_knots_of : FdD C 35 "knots_of" "knots_of" st_knots_of
  g_knots : mg "knots" = some (.ref (C.adr 36))
  d_knots : FdD C 36 "knots" "knots" st_knots
  g__law_told : mg "_law_told" = some (.ref (C.adr 37))
  d__law_told : FdD C 37 "_law_told" "_law_told" st__law_told
  g_is_kind : mg "is_kind" = some (.ref (C.adr 38))
  d_is_kind : FdD C 38 "is_kind" "is_kind" st_is_kind
  g_law : mg "law" = some (.ref (C.adr 39))
  d_law : FdD C 39 "law" "law" st_law
  g_DoorsError : mg "DoorsError" = some (.ref (C.adr 40))
  g_BadProgram : mg "BadProgram" = some (.ref (C.adr 41))
  g_NoKind : mg "NoKind" = some (.ref (C.adr 42))
  g_Walk : mg "Walk" = some (.ref (C.adr 43))
  g_Program : mg "Program" = some (.ref (C.adr 44))
  c_MOST_DEEP : ∃ t, mg "MOST_DEEP" = some (.int 4 t)
  c_MOST_EITHERS : ∃ t, mg "MOST_EITHERS" = some (.int 6 t)
  c_MOST_GIVEN : ∃ t, mg "MOST_GIVEN" = some (.int 3 t)
  c_MOST_IN_BLOCK : ∃ t, mg "MOST_IN_BLOCK" = some (.int 12 t)
  c_MOST_KNOTS : ∃ t, mg "MOST_KNOTS" = some (.int 6 t)
  c_MOST_PARAMS : ∃ t, mg "MOST_PARAMS" = some (.int 4 t)
  c_MOST_PROCEDURES : ∃ t, mg "MOST_PROCEDURES" = some (.int 8 t)
  c_MOST_STEPS : ∃ t, mg "MOST_STEPS" = some (.int 24 t)
  n_abs : mg "abs" = none
  n_all : mg "all" = none
  n_any : mg "any" = none
  n_bool : mg "bool" = none
  n_dict : mg "dict" = none
  n_enumerate : mg "enumerate" = none
  n_int : mg "int" = none
  n_isinstance : mg "isinstance" = none
  n_len : mg "len" = none
  n_list : mg "list" = none
  n_range : mg "range" = none
  n_set : mg "set" = none
  n_sorted : mg "sorted" = none
  n_sum : mg "sum" = none
  n_tuple : mg "tuple" = none
  n_zip : mg "zip" = none
  f_Program_procedures : FldI C 44 3
  f_Walk_made : FldI C 43 1
  f_Walk_params_of : FldI C 43 0
  f_Walk_place : FldI C 43 2
  nf_params_of : C.fld 0 = "params_of"
  nf_made : C.fld 1 = "made"
  nf_place : C.fld 2 = "place"
  nf_procedures : C.fld 3 = "procedures"
  m_Walk_block : MethI C 43 "block" 3
  m_Walk_born : MethI C 43 "born" 4
  nm_block : ∀ j, C.fld j ≠ "block"
  nm_born : ∀ j, C.fld j ≠ "born"
  mk_Program : MkI C 44 18
  mk_Walk : MkI C 43 2
  x_NoKind : ExcI C 42
  ins_Program : InsI C 44
  ki_int : PySem.W.kitOne C.K (.ref (C.adr 44)) (.type "int") = some false
  ki_bool : PySem.W.kitOne C.K (.ref (C.adr 44)) (.type "bool") = some false
  ki_tuple : PySem.W.kitOne C.K (.ref (C.adr 44)) (.type "tuple") = some false
  ki_list : PySem.W.kitOne C.K (.ref (C.adr 44)) (.type "list") = some false
  ki_dict : PySem.W.kitOne C.K (.ref (C.adr 44)) (.type "dict") = some false
  ec : L2.ExcC C.K (C.adr 42)
  exm_NoKind : PySem.W.exmOne C.K (.ref (C.adr 42)) (.ref (C.adr 42)) = some true
  k_doors : PySem.W.kitOne C.K (.ref (C.adr 42)) (.ref (C.adr 40)) = some true
  k_value : PySem.W.kitOne C.K (.ref (C.adr 42)) (.type "ValueError") = some true
  k_bad : PySem.W.kitOne C.K (.ref (C.adr 42)) (.ref (C.adr 41)) = some false
  n_ValueError : mg "ValueError" = none
/-- a def that makes lambdas: its code object, its table -/
structure Lx (mg : Str → Option Value) (base : Heap) (C : Ct) (i : Nat) (qual : Str) (c P : Addr) : Prop where
  tb : LamX.TabB base mg c P
  mem : (P, qual ++ ".<locals>." ++ "<lambda>") ∈ C.tabs
  uniq : ∀ p ∈ C.tabs, p.1 = P → p.2 = qual ++ ".<locals>." ++ "<lambda>"
  code : ∀ oc od fd osl, C.K.lookup (C.adr i) = some ⟨oc, od, .func fd, osl⟩ → PySem.W.codeIn C.K fd.code qual = true → fd.code = .ref c
structure Lz (mg : Str → Option Value) (base : Heap) (C : Ct) : Prop where
  l_is_procedure : ∃ c P, Lx mg base C 13 "is_procedure" c P
  l_Program___init__ : ∃ c P, Lx mg base C 18 "Program.__init__" c P
section
variable {P : Program} {W0 : World} {mg : Str → Option Value} {base : Heap} {C : Ct}
theorem sc_can_end : FnScope ["block", "able", "step"] ["block", "able"] (defScope st_can_end) := ⟨rfl, rfl, rfl, by decide +kernel, rfl, by decide +kernel, by decide +kernel⟩
theorem bi_can_end : BindsD "can_end" "can_end" st_can_end ["block", "able"] := fun _ _ _ _ _ _ us hl => match us, hl with | [_, _], _ => rfl
theorem fi_can_end (T : Tx mg C) : ∀ n, Fi P W0 mg base C (2 + n) 0 2 (d_can_end n)
  | 0 => fi_zero T.d_can_end sc_can_end bi_can_end
  | n + 1 => by
    have ih : Fi P W0 mg base C (2 + n) 0 2 (d_can_end n) := fi_can_end T n
    exact fi_ofD (k := 2 + n) T.d_can_end sc_can_end bi_can_end fun cdv A outer s H E hr tk po =>
  (ssCons (sFor po (iT (eVar 0)) (gNm (i := 2) sc_can_end.nd) (ssOne (sIf (tCmp (opEq (L2.Room.units hr)) (eIx (eVar 2) eInt) (eStr [101, 105, 116, 104, 101, 114] (by decide +kernel)) rfl) (ssOne (sIf (L2.PW.pt (wAnd (tNot' (tTru (eCall ih tk hr T.g_can_end (aCons (eIx (eVar 2) eInt) (aCons (eVar 1) aNil))))) (wAnd1 (tNot' (tTru (eCall ih tk hr T.g_can_end (aCons (eIx (eVar 2) eInt) (aCons (eVar 1) aNil)))))))) (ssOne (sRet eBl)) ssNil)) (ssOne (sIf (L2.PW.pt (wAnd (tCmp (opIn (OD.Room.u65 hr)) (eIx (eVar 2) eInt) (eTup (aCons (eStr [99, 97, 108, 108] (by decide +kernel)) (aCons (eStr [115, 116, 97, 114, 116] (by decide +kernel)) aNil))) rfl) (wAnd1 (tCmp (opNotIn (OD.Room.u65 hr)) (eIx (eVar 2) eInt) (eVar 1) rfl)))) (ssOne (sRet eBl)) ssNil)))))
  (ssOne (sRet eBl)))
theorem sc_ending_of : FnScope ["blocks", "found", "grown", "more", "key"] ["blocks"] (defScope st_ending_of) := ⟨rfl, rfl, rfl, by decide +kernel, rfl, by decide +kernel, by decide +kernel⟩
theorem bi_ending_of : BindsD "ending_of" "ending_of" st_ending_of ["blocks"] := fun _ _ _ _ _ _ us hl => match us, hl with | [_], _ => rfl
theorem fi_ending_of (T : Tx mg C) : Fi P W0 mg base C 7 1 1 d_ending_of :=
  fi_ofD T.d_ending_of sc_ending_of bi_ending_of fun cdv A outer s H E hr tk po => (ssCons (sSet (i := 1) sc_ending_of.nd eDNew)
  (ssCons (sSet (i := 2) sc_ending_of.nd eBl)
  (ssCons (sWh po (tTru (eVar 2)) (ssCons (sLkS (m := (mVar 0)) (sSetLc (i := 3) (own := [("key", 4)]) sc_ending_of.nd (iK (eVar 0)) (blkOk_by (by kernel_rfl)) (fun _ _ _ _ _ => (gNm (i := 4) sc_ending_of.nd)) (fun _ _ _ _ _ => (tsOne (L2.PW.pt (wAnd (tCmp (opNotIn (OD.Room.u65 hr)) (eVar 4) (eVar 1) rfl) (wAnd1 (tTru (eCall ((fi_can_end T 3).mono (by first | decide | omega)) tkF hr T.g_can_end (aCons (eDget (eVar 0) (eVar 4) (OD.Room.u1 hr)) (aCons (eVar 1) aNil))))))))) (fun _ _ _ _ _ => (eVar 4)) rfl))
  (ssCons (sExpr (eM (T := 1) PySem.F.plainAttrs_dict PySem.F.slot_dict_update PySem.F.type_dict_update meUpdate (eVar 1) (aCons (eDc (own := [("key", 4)]) sc_ending_of.nd (iL (eVar 3)) (blkOk_by (by kernel_rfl)) (fun _ _ _ _ _ => (gNm (i := 4) sc_ending_of.nd)) (fun _ _ _ _ _ => tsNil) (fun _ _ _ _ _ => (eVar 4)) (fun _ _ _ _ _ => eBl)) aNil)))
  (ssOne (sSet (i := 2) sc_ending_of.nd (eCmp opGt (eB cLen T.n_len (aCons (eVar 3) aNil)) eInt rfl))))))
  (ssOne (sRet (eVar 1))))))
theorem sc_Walk___init__ : FnScope ["self", "params_of"] ["self", "params_of"] (defScope st_Walk___init__) := ⟨rfl, rfl, rfl, by decide +kernel, rfl, by decide +kernel, by decide +kernel⟩
theorem bi_Walk___init__ : BindsD "__init__" "Walk.__init__" st_Walk___init__ ["self", "params_of"] := fun _ _ _ _ _ _ us hl => match us, hl with | [_, _], _ => rfl
theorem fi_Walk___init__ (T : Tx mg C) : Fi P W0 mg base C 2 2 2 d_Walk___init__ :=
  fi_ofD T.d_Walk___init__ sc_Walk___init__ bi_Walk___init__ fun cdv A outer s H E hr tk po => (ssCons (sFld (eVar 0) (eVar 1) T.f_Walk_params_of T.nf_params_of)
  (ssCons (sFld (eVar 0) eInt T.f_Walk_made T.nf_made)
  (ssOne (sFld (eVar 0) eInt T.f_Walk_place T.nf_place))))
theorem sc_Walk_block : FnScope ["self", "there", "block", "step", "place", "one", "first", "other", "second", "fault", "word", "end"] ["self", "there", "block"] (defScope st_Walk_block) := ⟨rfl, rfl, rfl, by decide +kernel, rfl, by decide +kernel, by decide +kernel⟩
theorem bi_Walk_block : BindsD "block" "Walk.block" st_Walk_block ["self", "there", "block"] := fun _ _ _ _ _ _ us hl => match us, hl with | [_, _, _], _ => rfl
theorem fi_Walk_block (T : Tx mg C) : ∀ n, Fi P W0 mg base C (2 + n) 3 3 (d_Walk_block n)
  | 0 => fi_zero T.d_Walk_block sc_Walk_block bi_Walk_block
  | n + 1 => by
    have ih : Fi P W0 mg base C (2 + n) 3 3 (d_Walk_block n) := fi_Walk_block T n
    exact fi_ofD (k := 2 + n) T.d_Walk_block sc_Walk_block bi_Walk_block fun cdv A outer s H E hr tk po =>
  (ssCons (sFor po (iT (eVar 2)) (gNm (i := 3) sc_Walk_block.nd) (ssCons (sSet (i := 4) sc_Walk_block.nd (eFld (eVar 0) T.f_Walk_place T.nf_place))
  (ssCons (sFldA (eVar 0) eInt T.f_Walk_place T.nf_place)
  (ssCons (sIf (tCmp (opEq (L2.Room.units hr)) (eIx (eVar 3) eInt) (eStr [101, 105, 116, 104, 101, 114] (by decide +kernel)) rfl) (ssCons (sAsg (eMeth (eVar 0) T.m_Walk_block ih tk hr T.nm_block (aCons (eVar 1) (aCons (eIx (eVar 3) eInt) aNil))) (gTp (gsCons (C := C) (gNm (i := 5) sc_Walk_block.nd) (gsCons (C := C) (gNm (i := 6) sc_Walk_block.nd) gsNil))))
  (ssCons (sAsg (eIf (tCmp opIsN (eVar 5) eNon rfl) (eMeth (eVar 0) T.m_Walk_block ih tk hr T.nm_block (aCons (eVar 1) (aCons (eIx (eVar 3) eInt) aNil))) (eTup (aCons eNon (aCons (eVar 6) aNil)))) (gTp (gsCons (C := C) (gNm (i := 7) sc_Walk_block.nd) (gsCons (C := C) (gNm (i := 8) sc_Walk_block.nd) gsNil))))
  (ssCons (sSet (i := 9) sc_Walk_block.nd (eIf (tCmp opIsNN (eVar 5) eNon rfl) (eVar 5) (eVar 7)))
  (ssCons (sIf (L2.PW.pt (wAnd (tCmp opIsN (eVar 9) eNon rfl) (wAnd1 (L2.PW.pt (wOr (tCmp (opNe (L2.Room.units hr)) (eVar 6) (eVar 8) rfl) (wOr1 (tNot' (tTru (eBL cAll T.n_all (eLc (own := [("end", 11)]) sc_Walk_block.nd (iT eBad) (blkOk_by (by kernel_rfl)) (fun _ _ _ _ _ => (gNm (i := 11) sc_Walk_block.nd)) (fun _ _ _ _ _ => tsNil) (fun _ _ _ _ _ => (eCmp (opIn (OD.Room.u65 hr)) (eVar 11) eBad rfl)))))))))))) (ssOne (sSet (i := 9) sc_Walk_block.nd (eTup (aCons (eStr [108, 101, 102, 116] (by decide +kernel)) (aCons (eVar 4) aNil))))) ssNil)
  (ssOne (sSet (i := 1) sc_Walk_block.nd (eVar 6))))))) (ssCons (sAsg eBad (gTp (gsCons (C := C) (gNm (i := 10) sc_Walk_block.nd) (gsCons (C := C) (gNm (i := 1) sc_Walk_block.nd) gsNil))))
  (ssOne (sSet (i := 9) sc_Walk_block.nd (eIf (tCmp opIsN (eVar 10) eNon rfl) eNon (eTup (aCons (eStr [115, 116, 101, 112] (by decide +kernel)) (aCons (eVar 4) (aCons (eVar 10) aNil)))))))))
  (ssOne (sIf (tCmp opIsNN (eVar 9) eNon rfl) (ssOne (sRet (eTup (aCons (eVar 9) (aCons (eVar 1) aNil))))) ssNil))))))
  (ssOne (sRet (eTup (aCons eNon (aCons (eVar 1) aNil))))))
theorem sc_Walk_born : FnScope ["self", "there", "pairs", "later", "name", "kind"] ["self", "there", "pairs"] (defScope st_Walk_born) := ⟨rfl, rfl, rfl, by decide +kernel, rfl, by decide +kernel, by decide +kernel⟩
theorem bi_Walk_born : BindsD "born" "Walk.born" st_Walk_born ["self", "there", "pairs"] := fun _ _ _ _ _ _ us hl => match us, hl with | [_, _, _], _ => rfl
theorem fi_Walk_born (T : Tx mg C) : Fi P W0 mg base C 2 4 3 d_Walk_born :=
  fi_ofD T.d_Walk_born sc_Walk_born bi_Walk_born fun cdv A outer s H E hr tk po => (ssCons (sSet (i := 3) sc_Walk_born.nd (eTy cDict T.n_dict (aCons (eVar 1) aNil)))
  (ssCons (sFor po (iT (eVar 2)) (gTp (gsCons (C := C) (gNm (i := 4) sc_Walk_born.nd) (gsCons (C := C) (gNm (i := 5) sc_Walk_born.nd) gsNil))) (ssCons (sSetD (eVar 3) (eVar 4) (eTup (aCons (eVar 5) (aCons (eFld (eVar 0) T.f_Walk_made T.nf_made) aNil))) (OD.Room.u1 hr))
  (ssOne (sFldA (eVar 0) eInt T.f_Walk_made T.nf_made))))
  (ssOne (sRet (eVar 3)))))
theorem sc_fault_of : FnScope ["params", "block", "params_of", "walk", "fault", "there"] ["params", "block", "params_of"] (defScope st_fault_of) := ⟨rfl, rfl, rfl, by decide +kernel, rfl, by decide +kernel, by decide +kernel⟩
theorem bi_fault_of : BindsD "fault_of" "fault_of" st_fault_of ["params", "block", "params_of"] := fun _ _ _ _ _ _ us hl => match us, hl with | [_, _, _], _ => rfl
theorem fi_fault_of (T : Tx mg C) : Fi P W0 mg base C 7 5 3 d_fault_of :=
  fi_ofD T.d_fault_of sc_fault_of bi_fault_of fun cdv A outer s H E hr tk po => (ssCons (sSet (i := 3) sc_fault_of.nd (eMake T.mk_Walk ((fi_Walk___init__ T).mono (by first | decide | omega)) tk (OD.Room.pred hr (by first | decide | omega)) T.g_Walk (aCons (eVar 2) aNil)))
  (ssCons (sAsg (eMeth (eVar 3) T.m_Walk_block ((fi_Walk_block T 3).mono (by first | decide | omega)) tk hr T.nm_block (aCons (eMeth (eVar 3) T.m_Walk_born ((fi_Walk_born T).mono (by first | decide | omega)) tk hr T.nm_born (aCons eDNew (aCons (eVar 0) aNil))) (aCons (eVar 1) aNil))) (gTp (gsCons (C := C) (gNm (i := 4) sc_fault_of.nd) (gsCons (C := C) (gNm (i := 5) sc_fault_of.nd) gsNil))))
  (ssCons (sIf (L2.PW.pt (wAnd (tCmp opIsN (eVar 4) eNon rfl) (wAnd1 (tCmp opGt (eB cLen T.n_len (aCons (eVar 5) aNil)) eInt rfl)))) (ssOne (sSet (i := 4) sc_fault_of.nd (eTup (aCons (eStr [108, 101, 102, 116] (by decide +kernel)) (aCons (eUn unNeg eInt) aNil))))) ssNil)
  (ssOne (sRet (eVar 4))))))
theorem sc_are_unlike : FnScope ["things"] ["things"] (defScope st_are_unlike) := ⟨rfl, rfl, rfl, by decide +kernel, rfl, by decide +kernel, by decide +kernel⟩
theorem bi_are_unlike : BindsD "are_unlike" "are_unlike" st_are_unlike ["things"] := fun _ _ _ _ _ _ us hl => match us, hl with | [_], _ => rfl
theorem fi_are_unlike (T : Tx mg C) : Fi P W0 mg base C 2 6 1 d_are_unlike :=
  fi_ofD T.d_are_unlike sc_are_unlike bi_are_unlike fun cdv A outer s H E hr tk po => (ssOne (sRet (eCmp (opEq (L2.Room.units hr)) (eLenSet T.n_len T.n_set (eVar 0)) (eB cLen T.n_len (aCons (eVar 0) aNil)) rfl)))
theorem sc_is_pair : FnScope ["thing"] ["thing"] (defScope st_is_pair) := ⟨rfl, rfl, rfl, by decide +kernel, rfl, by decide +kernel, by decide +kernel⟩
theorem bi_is_pair : BindsD "is_pair" "is_pair" st_is_pair ["thing"] := fun _ _ _ _ _ _ us hl => match us, hl with | [_], _ => rfl
theorem fi_is_pair (T : Tx mg C) : Fi P W0 mg base C 2 7 1 d_is_pair :=
  fi_ofD T.d_is_pair sc_is_pair bi_is_pair fun cdv A outer s H E hr tk po => (ssOne (sRet (eAnd (eIsT .tup (eVar 0) (clB T.n_tuple) (ownF_ok ⟨T.ki_tuple, T.ins_Program⟩) T.n_isinstance) (eOne (eCmp (opEq (L2.Room.units hr)) (eB cLen T.n_len (aCons (eVar 0) aNil)) eInt rfl)))))
theorem sc_is_integer : FnScope ["thing"] ["thing"] (defScope st_is_integer) := ⟨rfl, rfl, rfl, by decide +kernel, rfl, by decide +kernel, by decide +kernel⟩
theorem bi_is_integer : BindsD "is_integer" "is_integer" st_is_integer ["thing"] := fun _ _ _ _ _ _ us hl => match us, hl with | [_], _ => rfl
theorem fi_is_integer (T : Tx mg C) : Fi P W0 mg base C 2 8 1 d_is_integer :=
  fi_ofD T.d_is_integer sc_is_integer bi_is_integer fun cdv A outer s H E hr tk po => (ssOne (sRet (eAnd (eIsT .int (eVar 0) (clB T.n_int) (ownF_ok ⟨T.ki_int, T.ins_Program⟩) T.n_isinstance) (eOne (eNot (eIsT .bl (eVar 0) (clB T.n_bool) (ownF_ok ⟨T.ki_bool, T.ins_Program⟩) T.n_isinstance))))))
theorem sc_is_within : FnScope ["thing", "least", "most"] ["thing", "least", "most"] (defScope st_is_within) := ⟨rfl, rfl, rfl, by decide +kernel, rfl, by decide +kernel, by decide +kernel⟩
theorem bi_is_within : BindsD "is_within" "is_within" st_is_within ["thing", "least", "most"] := fun _ _ _ _ _ _ us hl => match us, hl with | [_, _, _], _ => rfl
theorem fi_is_within (T : Tx mg C) : Fi P W0 mg base C 4 9 3 d_is_within :=
  fi_ofD T.d_is_within sc_is_within bi_is_within fun cdv A outer s H E hr tk po => (ssOne (sRet (eAnd (eCall ((fi_is_integer T).mono (by first | decide | omega)) tk hr T.g_is_integer (aCons (eVar 0) aNil)) (eOne (eChain opLe opLe (eVar 1) (eVar 0) (eVar 2))))))
theorem sc_is_kind_there : FnScope ["thing", "waiting", "knots_there", "here"] ["thing"] (defScope st_is_kind_there) := ⟨rfl, rfl, rfl, by decide +kernel, rfl, by decide +kernel, by decide +kernel⟩
theorem bi_is_kind_there : BindsD "is_kind_there" "is_kind_there" st_is_kind_there ["thing"] := fun _ _ _ _ _ _ us hl => match us, hl with | [_], _ => rfl
theorem fi_is_kind_there (T : Tx mg C) : Fi P W0 mg base C 6 10 1 d_is_kind_there :=
  fi_ofD T.d_is_kind_there sc_is_kind_there bi_is_kind_there fun cdv A outer s H E hr tk po => (ssCons (sSet (i := 1) sc_is_kind_there.nd (eLst (aCons (eVar 0) aNil)))
  (ssCons (sSet (i := 2) sc_is_kind_there.nd eInt)
  (ssCons (sWh po (tCmp opGt (eB cLen T.n_len (aCons (eVar 1) aNil)) eInt rfl) (ssCons (sSet (i := 3) sc_is_kind_there.nd (eM0 (T := 0) PySem.F.plainAttrs_list PySem.F.slot_list_pop PySem.F.type_list_pop mePop (eVar 1)))
  (ssCons (sAug (i := 2) iopAdd sc_is_kind_there.nd eInt)
  (ssCons (sIf (L2.PW.pt (wOr (tCmp opGt (eVar 2) (eGInt rfl T.c_MOST_KNOTS) rfl) (wOr (tNot' (tTru (eCall ((fi_is_pair T).mono (by first | decide | omega)) tk hr T.g_is_pair (aCons (eVar 3) aNil)))) (wOr1 (tNot' (tTru (eCall ((fi_is_within T).mono (by first | decide | omega)) tk hr T.g_is_within (aCons (eIx (eVar 3) eInt) (aCons eInt (aCons eInt aNil)))))))))) (ssOne (sRet eBl)) ssNil)
  (ssCons (sIf (L2.PW.pt (wOr (tNot' (tTru (eIsT .tup (eIx (eVar 3) eInt) (clB T.n_tuple) (ownF_ok ⟨T.ki_tuple, T.ins_Program⟩) T.n_isinstance))) (wOr1 (tCmp opGt (eB cLen T.n_len (aCons (eIx (eVar 3) eInt) aNil)) (eGInt rfl T.c_MOST_GIVEN) rfl)))) (ssOne (sRet eBl)) ssNil)
  (ssOne (sExpr (eM (T := 0) PySem.F.plainAttrs_list PySem.F.slot_list_extend PySem.F.type_list_extend meExtend (eVar 1) (aCons (eIx (eVar 3) eInt) aNil)))))))))
  (ssOne (sRet eBl)))))
theorem sc_are_params : FnScope ["thing", "item", "name", "kind"] ["thing"] (defScope st_are_params) := ⟨rfl, rfl, rfl, by decide +kernel, rfl, by decide +kernel, by decide +kernel⟩
theorem bi_are_params : BindsD "are_params" "are_params" st_are_params ["thing"] := fun _ _ _ _ _ _ us hl => match us, hl with | [_], _ => rfl
theorem fi_are_params (T : Tx mg C) : Fi P W0 mg base C 8 11 1 d_are_params :=
  fi_ofD T.d_are_params sc_are_params bi_are_params fun cdv A outer s H E hr tk po => (ssCons (sIf (L2.PW.pt (wOr (tNot' (tTru (eIsT .tup (eVar 0) (clB T.n_tuple) (ownF_ok ⟨T.ki_tuple, T.ins_Program⟩) T.n_isinstance))) (wOr1 (tCmp opGt (eB cLen T.n_len (aCons (eVar 0) aNil)) (eGInt rfl T.c_MOST_PARAMS) rfl)))) (ssOne (sRet eBl)) ssNil)
  (ssCons (sIf (tNot' (tTru (eBL cAll T.n_all (eLc (own := [("item", 1)]) sc_are_params.nd (iT (eVar 0)) (blkOk_by (by kernel_rfl)) (fun _ _ _ _ _ => (gNm (i := 1) sc_are_params.nd)) (fun _ _ _ _ _ => tsNil) (fun _ _ _ _ _ => (eAnd (eCall ((fi_is_pair T).mono (by first | decide | omega)) tkF hr T.g_is_pair (aCons (eVar 1) aNil)) (eAnd eBad (eOne (eCall ((fi_is_kind_there T).mono (by first | decide | omega)) tkF hr T.g_is_kind_there (aCons (eIx (eVar 1) eInt) aNil)))))))))) (ssOne (sRet eBl)) ssNil)
  (ssOne (sRet (eCall ((fi_are_unlike T).mono (by first | decide | omega)) tk hr T.g_are_unlike (aCons (eNew (eLc (own := [("name", 2), ("kind", 3)]) sc_are_params.nd (iT (eVar 0)) (blkOk_by (by kernel_rfl)) (fun _ _ _ _ _ => (gTp (gsCons (C := C) (gNm (i := 2) sc_are_params.nd) (gsCons (C := C) (gNm (i := 3) sc_are_params.nd) gsNil)))) (fun _ _ _ _ _ => tsNil) (fun _ _ _ _ _ => (eVar 2)))) aNil))))))
theorem sc_is_block : FnScope ["thing", "is_target", "waiting", "steps", "eithers", "here", "deep", "step"] ["thing", "is_target"] (defScope st_is_block) := ⟨rfl, rfl, rfl, by decide +kernel, rfl, by decide +kernel, by decide +kernel⟩
theorem bi_is_block : BindsD "is_block" "is_block" st_is_block ["thing", "is_target"] := fun _ _ _ _ _ _ us hl => match us, hl with | [_, _], _ => rfl
theorem fi_is_block (T : Tx mg C) : Fi P W0 mg base C 2 12 2 d_is_block :=
  fi_ofD T.d_is_block sc_is_block bi_is_block fun cdv A outer s H E hr tk po => (ssCons (sSet (i := 2) sc_is_block.nd (eLst (aCons (eTup (aCons (eVar 0) (aCons eInt aNil))) aNil)))
  (ssCons (sAsg (eTup (aCons eInt (aCons eInt aNil))) (gTp (gsCons (C := C) (gNm (i := 3) sc_is_block.nd) (gsCons (C := C) (gNm (i := 4) sc_is_block.nd) gsNil))))
  (ssCons (sWh po (tCmp opGt (eB cLen T.n_len (aCons (eVar 2) aNil)) eInt rfl) (ssCons (sAsg (eM0 (T := 0) PySem.F.plainAttrs_list PySem.F.slot_list_pop PySem.F.type_list_pop mePop (eVar 2)) (gTp (gsCons (C := C) (gNm (i := 5) sc_is_block.nd) (gsCons (C := C) (gNm (i := 6) sc_is_block.nd) gsNil))))
  (ssCons (sIf (L2.PW.pt (wOr (tNot' (tTru (eIsT .tup (eVar 5) (clB T.n_tuple) (ownF_ok ⟨T.ki_tuple, T.ins_Program⟩) T.n_isinstance))) (wOr (tCmp opGt (eB cLen T.n_len (aCons (eVar 5) aNil)) (eGInt rfl T.c_MOST_IN_BLOCK) rfl) (wOr1 (tCmp opGt (eVar 6) (eGInt rfl T.c_MOST_DEEP) rfl))))) (ssOne (sRet eBl)) ssNil)
  (ssCons (sAug (i := 3) iopAdd sc_is_block.nd (eB cLen T.n_len (aCons (eVar 5) aNil)))
  (ssCons (sFor po (iT (eVar 5)) (gNm (i := 7) sc_is_block.nd) (ssOne (sIf (tTru eBad) (ssCons (sAug (i := 4) iopAdd sc_is_block.nd eInt)
  (ssOne (sExpr (eM (T := 0) PySem.F.plainAttrs_list PySem.F.slot_list_extend PySem.F.type_list_extend meExtend (eVar 2) (aCons (eLst (aCons (eTup (aCons (eIx (eVar 7) eInt) (aCons (eOp opAdd (eVar 6) eInt) aNil))) (aCons (eTup (aCons (eIx (eVar 7) eInt) (aCons (eOp opAdd (eVar 6) eInt) aNil))) aNil))) aNil))))) (ssOne (sIf (tNot' (tTru eBad)) (ssOne (sRet eBl)) ssNil)))))
  (ssOne (sIf (L2.PW.pt (wOr (tCmp opGt (eVar 3) (eGInt rfl T.c_MOST_STEPS) rfl) (wOr1 (tCmp opGt (eVar 4) (eGInt rfl T.c_MOST_EITHERS) rfl)))) (ssOne (sRet eBl)) ssNil)))))))
  (ssOne (sRet eBl)))))
theorem sc_is_procedure : FnScope ["thing", "many"] ["thing", "many"] (defScope st_is_procedure) := ⟨rfl, rfl, rfl, by decide +kernel, rfl, by decide +kernel, by decide +kernel⟩
theorem bi_is_procedure : BindsD "is_procedure" "is_procedure" st_is_procedure ["thing", "many"] := fun _ _ _ _ _ _ us hl => match us, hl with | [_, _], _ => rfl
theorem fi_is_procedure (T : Tx mg C) (Z : Lz mg base C) : Fi P W0 mg base C 10 13 2 d_is_procedure :=
  let ⟨_, _, L⟩ := Z.l_is_procedure; fi_ofL T.d_is_procedure L.code sc_is_procedure bi_is_procedure fun A outer s H E hr tk po => (ssCons (sIf (L2.PW.pt (wOr (tNot' (tTru (eCall ((fi_is_pair T).mono (by first | decide | omega)) tk hr T.g_is_pair (aCons (eVar 0) aNil)))) (wOr1 (tNot' (tTru (eCall ((fi_are_params T).mono (by first | decide | omega)) tk hr T.g_are_params (aCons (eIx (eVar 0) eInt) aNil))))))) (ssOne (sRet eBl)) ssNil)
  (ssOne (sRet (eCall ((fi_is_block T).mono (by first | decide | omega)) tk hr T.g_is_block (aCons (eIx (eVar 0) eInt) (aCons (eLam 0 L.tb rfl L.mem L.uniq (lamF_ok (by kernel_rfl))) aNil))))))
theorem sc_lay_rows : FnScope ["rows", "block", "after", "at", "step", "place", "later", "begins", "inner"] ["rows", "block", "after"] (defScope st_lay_rows) := ⟨rfl, rfl, rfl, by decide +kernel, rfl, by decide +kernel, by decide +kernel⟩
theorem bi_lay_rows : BindsD "lay_rows" "lay_rows" st_lay_rows ["rows", "block", "after"] := fun _ _ _ _ _ _ us hl => match us, hl with | [_, _, _], _ => rfl
theorem fi_lay_rows (T : Tx mg C) : ∀ n, Fi P W0 mg base C (2 + n) 14 3 (d_lay_rows n)
  | 0 => fi_zero T.d_lay_rows sc_lay_rows bi_lay_rows
  | n + 1 => by
    have ih : Fi P W0 mg base C (2 + n) 14 3 (d_lay_rows n) := fi_lay_rows T n
    exact fi_ofD (k := 2 + n) T.d_lay_rows sc_lay_rows bi_lay_rows fun cdv A outer s H E hr tk po =>
  (ssOne (sFor po (iEnTup T.n_enumerate (aCons (eVar 1) aNil)) (gTp (gsCons (C := C) (gNm (i := 3) sc_lay_rows.nd) (gsCons (C := C) (gNm (i := 4) sc_lay_rows.nd) gsNil))) (ssCons (sSet (i := 5) sc_lay_rows.nd (eB cLen T.n_len (aCons (eVar 0) aNil)))
  (ssCons (sSet (i := 6) sc_lay_rows.nd (eIf (tCmp opLt (eOp opAdd (eVar 3) eInt) (eB cLen T.n_len (aCons (eVar 1) aNil)) rfl) (eOp opAdd (eVar 5) eBad) (eVar 2)))
  (ssCons (sExpr (eM (T := 0) PySem.F.plainAttrs_list PySem.F.slot_list_append PySem.F.type_list_append meAppend (eVar 0) (aCons (eTup (aCons (eVar 4) (aCons (eTup (aCons (eVar 6) aNil)) aNil))) aNil)))
  (ssOne (sIf (tCmp (opEq (L2.Room.units hr)) (eIx (eVar 4) eInt) (eStr [101, 105, 116, 104, 101, 114] (by decide +kernel)) rfl) (ssCons (sSet (i := 7) sc_lay_rows.nd (eLst aNil))
  (ssCons (sFor po (iT (eSl (eVar 4) (oS eInt) oN)) (gNm (i := 8) sc_lay_rows.nd) (ssCons (sExpr (eM (T := 0) PySem.F.plainAttrs_list PySem.F.slot_list_append PySem.F.type_list_append meAppend (eVar 7) (aCons (eIf (tCmp opGt (eB cLen T.n_len (aCons (eVar 8) aNil)) eInt rfl) (eB cLen T.n_len (aCons (eVar 0) aNil)) (eVar 6)) aNil)))
  (ssOne (sExpr (eCall ih tk hr T.g_lay_rows (aCons (eVar 0) (aCons (eVar 8) (aCons (eVar 6) aNil))))))))
  (ssOne (sSetI (eVar 0) (eVar 5) (eTup (aCons (eVar 4) (aCons (eTy (cTuple rfl) T.n_tuple (aCons (eVar 7) aNil)) aNil))))))) ssNil)))))))
theorem sc_rows_of : FnScope ["block", "rows"] ["block"] (defScope st_rows_of) := ⟨rfl, rfl, rfl, by decide +kernel, rfl, by decide +kernel, by decide +kernel⟩
theorem bi_rows_of : BindsD "rows_of" "rows_of" st_rows_of ["block"] := fun _ _ _ _ _ _ us hl => match us, hl with | [_], _ => rfl
theorem fi_rows_of (T : Tx mg C) : Fi P W0 mg base C 7 15 1 d_rows_of :=
  fi_ofD T.d_rows_of sc_rows_of bi_rows_of fun cdv A outer s H E hr tk po => (ssCons (sSet (i := 1) sc_rows_of.nd (eLst aNil))
  (ssCons (sExpr (eCall ((fi_lay_rows T 3).mono (by first | decide | omega)) tk hr T.g_lay_rows (aCons (eVar 1) (aCons (eVar 0) (aCons eNon aNil)))))
  (ssOne (sRet (eVar 1)))))
theorem sc_targets_of : FnScope ["block", "step", "later"] ["block"] (defScope st_targets_of) := ⟨rfl, rfl, rfl, by decide +kernel, rfl, by decide +kernel, by decide +kernel⟩
theorem bi_targets_of : BindsD "targets_of" "targets_of" st_targets_of ["block"] := fun _ _ _ _ _ _ us hl => match us, hl with | [_], _ => rfl
theorem fi_targets_of (T : Tx mg C) : Fi P W0 mg base C 9 16 1 d_targets_of :=
  fi_ofD T.d_targets_of sc_targets_of bi_targets_of fun cdv A outer s H E hr tk po => (ssOne (sRet (eNew (eLc (own := [("step", 1), ("later", 2)]) sc_targets_of.nd (iL (eCall ((fi_rows_of T).mono (by first | decide | omega)) tk hr T.g_rows_of (aCons (eVar 0) aNil))) (blkOk_by (by kernel_rfl)) (fun _ _ _ _ _ => (gTp (gsCons (C := C) (gNm (i := 1) sc_targets_of.nd) (gsCons (C := C) (gNm (i := 2) sc_targets_of.nd) gsNil)))) (fun _ _ _ _ _ => (tsOne (tCmp (opIn (OD.Room.u65 hr)) (eIx (eVar 1) eInt) (eTup (aCons (eStr [99, 97, 108, 108] (by decide +kernel)) (aCons (eStr [115, 116, 97, 114, 116] (by decide +kernel)) aNil))) rfl))) (fun _ _ _ _ _ => (eIx (eVar 1) eInt))))))
theorem sc_led_to : FnScope ["blocks", "key", "found", "waiting", "target"] ["blocks", "key"] (defScope st_led_to) := ⟨rfl, rfl, rfl, by decide +kernel, rfl, by decide +kernel, by decide +kernel⟩
theorem bi_led_to : BindsD "led_to" "led_to" st_led_to ["blocks", "key"] := fun _ _ _ _ _ _ us hl => match us, hl with | [_, _], _ => rfl
theorem fi_led_to (T : Tx mg C) : Fi P W0 mg base C 11 17 2 d_led_to :=
  fi_ofD T.d_led_to sc_led_to bi_led_to fun cdv A outer s H E hr tk po => (ssCons (sSet (i := 2) sc_led_to.nd (eLst (aCons (eVar 1) aNil)))
  (ssCons (sSet (i := 3) sc_led_to.nd (eLst (aCons (eVar 1) aNil)))
  (ssCons (sWh po (tCmp opGt (eB cLen T.n_len (aCons (eVar 3) aNil)) eInt rfl) (ssOne (sFor po (iL (eCall ((fi_targets_of T).mono (by first | decide | omega)) tk hr T.g_targets_of (aCons (eDget (eVar 0) (eM0 (T := 0) PySem.F.plainAttrs_list PySem.F.slot_list_pop PySem.F.type_list_pop mePop (eVar 3)) (OD.Room.u1 hr)) aNil))) (gNm (i := 4) sc_led_to.nd) (ssOne (sIf (tCmp (opNotIn (OD.Room.u65 hr)) (eVar 4) (eVar 2) rfl) (ssCons (sExpr (eM (T := 0) PySem.F.plainAttrs_list PySem.F.slot_list_append PySem.F.type_list_append meAppend (eVar 2) (aCons (eVar 4) aNil)))
  (ssOne (sExpr (eM (T := 0) PySem.F.plainAttrs_list PySem.F.slot_list_append PySem.F.type_list_append meAppend (eVar 3) (aCons (eVar 4) aNil))))) ssNil)))))
  (ssOne (sRet (eVar 2))))))
theorem sc_Program___init__ : FnScope ["self", "procedures", "number", "procedure", "fault", "blocks", "able", "come"] ["self", "procedures"] (defScope st_Program___init__) := ⟨rfl, rfl, rfl, by decide +kernel, rfl, by decide +kernel, by decide +kernel⟩
theorem bi_Program___init__ : BindsD "__init__" "Program.__init__" st_Program___init__ ["self", "procedures"] := fun _ _ _ _ _ _ us hl => match us, hl with | [_, _], _ => rfl
theorem fi_Program___init__ (T : Tx mg C) (Z : Lz mg base C) : Fi P W0 mg base C 13 18 2 d_Program___init__ :=
  let ⟨_, _, L⟩ := Z.l_Program___init__; fi_ofL T.d_Program___init__ L.code sc_Program___init__ bi_Program___init__ fun A outer s H E hr tk po => (ssCons (sIf (L2.PW.pt (wOr (tNot' (tTru (eIsT .tup (eVar 1) (clB T.n_tuple) (ownF_ok ⟨T.ki_tuple, T.ins_Program⟩) T.n_isinstance))) (wOr1 (tNot' (tChainT opLe opLe eInt (eB cLen T.n_len (aCons (eVar 1) aNil)) (eGInt rfl T.c_MOST_PROCEDURES)))))) (ssOne sBad) ssNil)
  (ssCons (sFor po (iEnTup T.n_enumerate (aCons (eVar 1) aNil)) (gTp (gsCons (C := C) (gNm (i := 2) sc_Program___init__.nd) (gsCons (C := C) (gNm (i := 3) sc_Program___init__.nd) gsNil))) (ssOne (sIf (L2.PW.pt (wOr (tNot' (tTru (eCall ((fi_is_procedure T Z).mono (by first | decide | omega)) tk hr T.g_is_procedure (aCons (eVar 3) (aCons (eB cLen T.n_len (aCons (eVar 1) aNil)) aNil))))) (wOr1 (L2.PW.pt (wAnd (tCmp (opEq (L2.Room.units hr)) (eVar 2) eInt rfl) (wAnd1 (tCmp opGt (eB cLen T.n_len (aCons (eIx (eVar 3) eInt) aNil)) eInt rfl))))))) (ssOne sBad) ssNil)))
  (ssCons (sFor po (iEnTup T.n_enumerate (aCons (eVar 1) aNil)) (gTp (gsCons (C := C) (gNm (i := 2) sc_Program___init__.nd) (gsCons (C := C) (gNm (i := 3) sc_Program___init__.nd) gsNil))) (ssCons (sSet (i := 4) sc_Program___init__.nd (eCall ((fi_fault_of T).mono (by first | decide | omega)) tk hr T.g_fault_of (aCons (eIx (eVar 3) eInt) (aCons (eIx (eVar 3) eInt) (aCons (eLam 0 L.tb rfl L.mem L.uniq (lamF_ok (by kernel_rfl))) aNil)))))
  (ssOne (sIf (tCmp opIsNN (eVar 4) eNon rfl) (ssOne sBad) ssNil))))
  (ssCons (sSetDc (i := 5) (own := [("number", 2), ("procedure", 3)]) sc_Program___init__.nd (iEnTup T.n_enumerate (aCons (eVar 1) aNil)) (blkOk_by (by kernel_rfl)) (fun _ _ _ _ _ => (gTp (gsCons (C := C) (gNm (i := 2) sc_Program___init__.nd) (gsCons (C := C) (gNm (i := 3) sc_Program___init__.nd) gsNil)))) (fun _ _ _ _ _ => tsNil) (fun _ _ _ _ _ => (eVar 2)) (fun _ _ _ _ _ => (eIx (eVar 3) eInt)) rfl)
  (ssCons (sSet (i := 6) sc_Program___init__.nd (eCall ((fi_ending_of T).mono (by first | decide | omega)) tk hr T.g_ending_of (aCons (eVar 5) aNil)))
  (ssCons (sLkS (m := (mVar 5)) (sFor po (iK (eVar 5)) (gNm (i := 2) sc_Program___init__.nd) (ssOne (sIf (tCmp (opNotIn (OD.Room.u65 hr)) (eVar 2) (eVar 6) rfl) (ssOne sBad) ssNil))))
  (ssCons (sSet (i := 7) sc_Program___init__.nd (eCall ((fi_led_to T).mono (by first | decide | omega)) tk hr T.g_led_to (aCons (eVar 5) (aCons eInt aNil))))
  (ssCons (sLkS (m := (mVar 5)) (sFor po (iK (eVar 5)) (gNm (i := 2) sc_Program___init__.nd) (ssOne (sIf (tCmp (opNotIn (OD.Room.u65 hr)) (eVar 2) (eVar 7) rfl) (ssOne sBad) ssNil))))
  (ssOne (sFld (eVar 0) (eVar 1) T.f_Program_procedures T.nf_procedures))))))))))
theorem sc__law_bag : FnScope ["script", "seed", "cell", "great", "always"] ["script"] (defScope st__law_bag) := ⟨rfl, rfl, rfl, by decide +kernel, rfl, by decide +kernel, by decide +kernel⟩
theorem bi__law_bag : BindsD "_law_bag" "_law_bag" st__law_bag ["script"] := fun _ _ _ _ _ _ us hl => match us, hl with | [_], _ => rfl
theorem fi__law_bag (T : Tx mg C) : Fi P W0 mg base C 2 19 1 d__law_bag :=
  fi_ofD T.d__law_bag sc__law_bag bi__law_bag fun cdv A outer s H E hr tk po => (ssCons (sSet (i := 1) sc__law_bag.nd (eOp opAdd eInt (eB cLen T.n_len (aCons (eVar 0) aNil))))
  (ssCons (sFor po (iL (eSl (eVar 0) oN (oS eInt))) (gNm (i := 2) sc__law_bag.nd) (ssOne (sSet (i := 1) sc__law_bag.nd (eOp opMod (eTy cInt T.n_int (aCons (eOp opAdd (eOp opAdd (eOp opMul (eVar 1) eInt) (eOp opMod (eTy cInt T.n_int (aCons (eVar 2) aNil)) eInt)) eInt) aNil)) eInt))))
  (ssCons (sSetLc (i := 3) (own := [("cell", 2)]) sc__law_bag.nd (iL (eSl (eVar 0) oN (oS eInt))) (blkOk_by (by kernel_rfl)) (fun _ _ _ _ _ => (gNm (i := 2) sc__law_bag.nd)) (fun _ _ _ _ _ => (tsOne (tCmp opGe (eB cAbs T.n_abs (aCons (eTy cInt T.n_int (aCons (eVar 2) aNil)) aNil)) (eOp opPow eInt eInt) rfl))) (fun _ _ _ _ _ => (eB cAbs T.n_abs (aCons (eTy cInt T.n_int (aCons (eVar 2) aNil)) aNil))) rfl)
  (ssCons (sSet (i := 4) sc__law_bag.nd eNon)
  (ssCons (sIf (L2.PW.pt (wAnd (tCmp opLt (eB cLen T.n_len (aCons (eVar 0) aNil)) eInt rfl) (wAnd1 (tCmp (opEq (L2.Room.units hr)) (eB cLen T.n_len (aCons (eVar 3) aNil)) eInt rfl)))) (ssOne (sSet (i := 4) sc__law_bag.nd (eB cAbs T.n_abs (aCons (eBL cSumL T.n_sum (eLc (own := [("cell", 2)]) sc__law_bag.nd (iL (eVar 0)) (blkOk_by (by kernel_rfl)) (fun _ _ _ _ _ => (gNm (i := 2) sc__law_bag.nd)) (fun _ _ _ _ _ => tsNil) (fun _ _ _ _ _ => (eTy cInt T.n_int (aCons (eVar 2) aNil))))) aNil)))) ssNil)
  (ssOne (sRet (eLst (aCons (eVar 1) (aCons eInt (aCons (eVar 3) (aCons (eVar 4) aNil))))))))))))
theorem sc__law_pick : FnScope ["bag", "many", "great", "digit", "number"] ["bag", "many"] (defScope st__law_pick) := ⟨rfl, rfl, rfl, by decide +kernel, rfl, by decide +kernel, by decide +kernel⟩
theorem bi__law_pick : BindsD "_law_pick" "_law_pick" st__law_pick ["bag", "many"] := fun _ _ _ _ _ _ us hl => match us, hl with | [_, _], _ => rfl
theorem fi__law_pick (T : Tx mg C) : Fi P W0 mg base C 2 20 2 d__law_pick :=
  fi_ofD T.d__law_pick sc__law_pick bi__law_pick fun cdv A outer s H E hr tk po => (ssCons (sIf (tCmp opIsNN (eIx (eVar 0) eInt) eNon rfl) (ssOne (sRet (eOp opMod (eTy cInt T.n_int (aCons (eIx (eVar 0) eInt) aNil)) (eVar 1)))) ssNil)
  (ssCons (sSetI (eVar 0) eInt (eOp opAdd (eIx (eVar 0) eInt) eInt))
  (ssCons (sSet (i := 2) sc__law_pick.nd (eIx (eVar 0) eInt))
  (ssCons (sIf (tCmp opGt (eB cLen T.n_len (aCons (eVar 2) aNil)) eInt rfl) (ssCons (sSet (i := 3) sc__law_pick.nd (eOp opMod (eTy cInt T.n_int (aCons (eIx (eVar 2) eInt) aNil)) (eVar 1)))
  (ssCons (sSetI (eVar 2) eInt (eOp opDiv (eTy cInt T.n_int (aCons (eIx (eVar 2) eInt) aNil)) (eVar 1)))
  (ssCons (sIf (tCmp (opEq (L2.Room.units hr)) (eIx (eVar 2) eInt) eInt rfl) (ssOne (sExpr (eM (T := 0) PySem.F.plainAttrs_list PySem.F.slot_list_pop PySem.F.type_list_pop mePopAt (eVar 2) (aCons eInt aNil)))) ssNil)
  (ssOne (sRet (eVar 3)))))) ssNil)
  (ssCons (sSet (i := 4) sc__law_pick.nd (eOp opMod (eTy cInt T.n_int (aCons (eOp opMul (eOp opAdd (eIx (eVar 0) eInt) (eOp opMul eInt (eIx (eVar 0) eInt))) eInt) aNil)) eInt))
  (ssCons (sSet (i := 4) sc__law_pick.nd (eOp opMod (eTy cInt T.n_int (aCons (eOp opMul (eVar 4) (eOp opAdd (eOp opDiv (eVar 4) eInt) eInt)) aNil)) eInt))
  (ssCons (sSet (i := 4) sc__law_pick.nd (eOp opMod (eTy cInt T.n_int (aCons (eOp opMul (eVar 4) (eOp opAdd (eOp opDiv (eVar 4) eInt) eInt)) aNil)) eInt))
  (ssOne (sRet (eOp opMod (eTy cInt T.n_int (aCons (eOp opDiv (eVar 4) eInt) aNil)) (eVar 1)))))))))))
theorem sc__law_changed : FnScope ["bag", "thing", "odd", "deep", "at", "way"] ["bag", "thing", "odd", "deep"] (defScope st__law_changed) := ⟨rfl, rfl, rfl, by decide +kernel, rfl, by decide +kernel, by decide +kernel⟩
theorem bi__law_changed : BindsD "_law_changed" "_law_changed" st__law_changed ["bag", "thing", "odd", "deep"] := fun _ _ _ _ _ _ us hl => match us, hl with | [_, _, _, _], _ => rfl
theorem fi__law_changed (T : Tx mg C) : ∀ n, Fi P W0 mg base C (4 + n) 21 4 (d__law_changed n)
  | 0 => fi_zero T.d__law_changed sc__law_changed bi__law_changed
  | n + 1 => by
    have ih : Fi P W0 mg base C (4 + n) 21 4 (d__law_changed n) := fi__law_changed T n
    exact fi_ofD (k := 4 + n) T.d__law_changed sc__law_changed bi__law_changed fun cdv A outer s H E hr tk po =>
  (ssCons (sIf (L2.PW.pt (wOr (tNot' (tTru (eIsT .tup (eVar 1) (clB T.n_tuple) (ownF_ok ⟨T.ki_tuple, T.ins_Program⟩) T.n_isinstance))) (wOr (tCmp (opEq (L2.Room.units hr)) (eB cLen T.n_len (aCons (eVar 1) aNil)) eInt rfl) (wOr (tCmp (opEq (L2.Room.units hr)) (eVar 3) eInt rfl) (wOr1 (tCmp (opEq (L2.Room.units hr)) (eCall ((fi__law_pick T).mono (by first | decide | omega)) tk hr T.g__law_pick (aCons (eVar 0) (aCons eInt aNil))) eInt rfl)))))) (ssOne (sRet (eVar 2))) ssNil)
  (ssCons (sSet (i := 4) sc__law_changed.nd (eCall ((fi__law_pick T).mono (by first | decide | omega)) tk hr T.g__law_pick (aCons (eVar 0) (aCons (eB cLen T.n_len (aCons (eVar 1) aNil)) aNil))))
  (ssCons (sSet (i := 5) sc__law_changed.nd (eCall ((fi__law_pick T).mono (by first | decide | omega)) tk hr T.g__law_pick (aCons (eVar 0) (aCons eInt aNil))))
  (ssCons (sIf (tCmp (opEq (L2.Room.units hr)) (eVar 5) eInt rfl) (ssOne (sRet (eOp opAdd (eSl (eVar 1) oN (oS (eVar 4))) (eSl (eVar 1) (oS (eOp opAdd (eVar 4) eInt)) oN)))) ssNil)
  (ssCons (sIf (tCmp (opEq (L2.Room.units hr)) (eVar 5) eInt rfl) (ssOne (sRet (eOp opAdd (eOp opAdd (eSl (eVar 1) oN (oS (eVar 4))) (eSl (eVar 1) (oS (eVar 4)) (oS (eOp opAdd (eVar 4) eInt)))) (eSl (eVar 1) (oS (eVar 4)) oN)))) ssNil)
  (ssCons (sIf (tCmp (opEq (L2.Room.units hr)) (eVar 5) eInt rfl) (ssOne (sRet (eOp opAdd (eOp opAdd (eSl (eVar 1) oN (oS (eVar 4))) (eRevT (eSl (eVar 1) (oS (eVar 4)) (oS (eOp opAdd (eVar 4) eInt))))) (eSl (eVar 1) (oS (eOp opAdd (eVar 4) eInt)) oN)))) ssNil)
  (ssOne (sRet (eOp opAdd (eOp opAdd (eSl (eVar 1) oN (oS (eVar 4))) (eTup (aCons (eCall ih tk hr T.g__law_changed (aCons (eVar 0) (aCons (eIx (eVar 1) (eVar 4)) (aCons (eVar 2) (aCons (eOp opSub (eVar 3) eInt) aNil))))) aNil))) (eSl (eVar 1) (oS (eOp opAdd (eVar 4) eInt)) oN))))))))))
theorem sc__law_deep : FnScope ["thing", "turn"] [] (defScope st__law_deep) := ⟨rfl, rfl, rfl, by decide +kernel, rfl, by decide +kernel, by decide +kernel⟩
theorem bi__law_deep : BindsD "_law_deep" "_law_deep" st__law_deep [] := fun _ _ _ _ _ _ us hl => match us, hl with | [], _ => rfl
theorem fi__law_deep (T : Tx mg C) : Fi P W0 mg base C 2 22 0 d__law_deep :=
  fi_ofD T.d__law_deep sc__law_deep bi__law_deep fun cdv A outer s H E hr tk po => (ssCons (sSet (i := 0) sc__law_deep.nd (eTup aNil))
  (ssCons (sFor po (iR1 T.n_range (aCons eInt aNil)) (gNm (i := 1) sc__law_deep.nd) (ssOne (sSet (i := 0) sc__law_deep.nd (eTup (aCons (eVar 0) aNil)))))
  (ssOne (sRet (eVar 0)))))
theorem sc__law_grown : FnScope ["bag", "many", "inner", "left", "size"] ["bag", "many"] (defScope st__law_grown) := ⟨rfl, rfl, rfl, by decide +kernel, rfl, by decide +kernel, by decide +kernel⟩
theorem bi__law_grown : BindsD "_law_grown" "_law_grown" st__law_grown ["bag", "many"] := fun _ _ _ _ _ _ us hl => match us, hl with | [_, _], _ => rfl
theorem fi__law_grown (T : Tx mg C) : ∀ n, Fi P W0 mg base C (4 + n) 23 2 (d__law_grown n)
  | 0 => fi_zero T.d__law_grown sc__law_grown bi__law_grown
  | n + 1 => by
    have ih : Fi P W0 mg base C (4 + n) 23 2 (d__law_grown n) := fi__law_grown T n
    exact fi_ofD (k := 4 + n) T.d__law_grown sc__law_grown bi__law_grown fun cdv A outer s H E hr tk po =>
  (ssCons (sSet (i := 2) sc__law_grown.nd (eLst aNil))
  (ssCons (sSet (i := 3) sc__law_grown.nd (eOp opSub (eVar 1) eInt))
  (ssCons (sWh po (tCmp opGt (eVar 3) eInt rfl) (ssCons (sSet (i := 4) sc__law_grown.nd (eOp opAdd eInt (eCall ((fi__law_pick T).mono (by first | decide | omega)) tk hr T.g__law_pick (aCons (eVar 0) (aCons (eVar 3) aNil)))))
  (ssCons (sExpr (eM (T := 0) PySem.F.plainAttrs_list PySem.F.slot_list_append PySem.F.type_list_append meAppend (eVar 2) (aCons (eCall ih tk hr T.g__law_grown (aCons (eVar 0) (aCons (eVar 4) aNil))) aNil)))
  (ssOne (sSet (i := 3) sc__law_grown.nd (eOp opSub (eVar 3) (eVar 4)))))))
  (ssOne (sRet (eTup (aCons (eCall ((fi__law_pick T).mono (by first | decide | omega)) tk hr T.g__law_pick (aCons (eVar 0) (aCons eInt aNil))) (aCons (eTy (cTuple rfl) T.n_tuple (aCons (eVar 2) aNil)) aNil))))))))
theorem sc__law_is : FnScope ["thing", "due", "one", "other"] ["thing", "due"] (defScope st__law_is) := ⟨rfl, rfl, rfl, by decide +kernel, rfl, by decide +kernel, by decide +kernel⟩
theorem bi__law_is : BindsD "_law_is" "_law_is" st__law_is ["thing", "due"] := fun _ _ _ _ _ _ us hl => match us, hl with | [_, _], _ => rfl
theorem fi__law_is (T : Tx mg C) : ∀ n, Fi P W0 mg base C (2 + n) 24 2 (d__law_is n)
  | 0 => fi_zero T.d__law_is sc__law_is bi__law_is
  | n + 1 => by
    have ih : Fi P W0 mg base C (2 + n) 24 2 (d__law_is n) := fi__law_is T n
    exact fi_ofD (k := 2 + n) T.d__law_is sc__law_is bi__law_is fun cdv A outer s H E hr tk po =>
  (ssCons (sIf (tTru (eIsT2 .tup .lst (eVar 1) (clB T.n_tuple) (clB T.n_list) ownN_ok T.n_isinstance)) (ssCons (sIf (L2.PW.pt (wOr (tCmp (opNe (L2.Room.units hr)) (eIsT .tup (eVar 0) (clB T.n_tuple) (ownF_ok ⟨T.ki_tuple, T.ins_Program⟩) T.n_isinstance) (eIsT .tup (eVar 1) (clB T.n_tuple) (ownF_ok ⟨T.ki_tuple, T.ins_Program⟩) T.n_isinstance) rfl) (wOr1 (tCmp (opNe (L2.Room.units hr)) (eIsT .lst (eVar 0) (clB T.n_list) (ownF_ok ⟨T.ki_list, T.ins_Program⟩) T.n_isinstance) (eIsT .lst (eVar 1) (clB T.n_list) (ownF_ok ⟨T.ki_list, T.ins_Program⟩) T.n_isinstance) rfl)))) (ssOne (sRet eBl)) ssNil)
  (ssOne (sRet (eAnd (eCmp (opEq (L2.Room.units hr)) (eB cLen T.n_len (aCons (eVar 0) aNil)) (eB cLen T.n_len (aCons (eVar 1) aNil)) rfl) (eOne (eBL cAll T.n_all (eLc (own := [("one", 2), ("other", 3)]) sc__law_is.nd (iZip T.n_zip (aCons (eVar 0) (aCons (eVar 1) aNil))) (blkOk_by (by kernel_rfl)) (fun _ _ _ _ _ => (gTp (gsCons (C := C) (gNm (i := 2) sc__law_is.nd) (gsCons (C := C) (gNm (i := 3) sc__law_is.nd) gsNil)))) (fun _ _ _ _ _ => tsNil) (fun _ _ _ _ _ => (eCall ih tkF hr T.g__law_is (aCons (eVar 2) (aCons (eVar 3) aNil))))))))))) ssNil)
  (ssOne (sRet (eAnd (eCmp (opEq (L2.Room.units hr)) (eIsT .bl (eVar 0) (clB T.n_bool) (ownF_ok ⟨T.ki_bool, T.ins_Program⟩) T.n_isinstance) (eIsT .bl (eVar 1) (clB T.n_bool) (ownF_ok ⟨T.ki_bool, T.ins_Program⟩) T.n_isinstance) rfl) (eOne (eCmp (opEq (L2.Room.units hr)) (eVar 0) (eVar 1) rfl))))))
theorem sc__law_is_int : FnScope ["thing", "least", "most"] ["thing", "least", "most"] (defScope st__law_is_int) := ⟨rfl, rfl, rfl, by decide +kernel, rfl, by decide +kernel, by decide +kernel⟩
theorem bi__law_is_int : BindsD "_law_is_int" "_law_is_int" st__law_is_int ["thing", "least", "most"] := fun _ _ _ _ _ _ us hl => match us, hl with | [_, _, _], _ => rfl
theorem fi__law_is_int (T : Tx mg C) : Fi P W0 mg base C 2 25 3 d__law_is_int :=
  fi_ofD T.d__law_is_int sc__law_is_int bi__law_is_int fun cdv A outer s H E hr tk po => (ssOne (sRet (eAnd (eIsT .int (eVar 0) (clB T.n_int) (ownF_ok ⟨T.ki_int, T.ins_Program⟩) T.n_isinstance) (eAnd (eNot (eIsT .bl (eVar 0) (clB T.n_bool) (ownF_ok ⟨T.ki_bool, T.ins_Program⟩) T.n_isinstance)) (eOne (eChain opLe opLe (eVar 1) (eVar 0) (eVar 2)))))))
theorem sc__law_is_kind : FnScope ["thing", "waiting", "many", "here"] ["thing"] (defScope st__law_is_kind) := ⟨rfl, rfl, rfl, by decide +kernel, rfl, by decide +kernel, by decide +kernel⟩
theorem bi__law_is_kind : BindsD "_law_is_kind" "_law_is_kind" st__law_is_kind ["thing"] := fun _ _ _ _ _ _ us hl => match us, hl with | [_], _ => rfl
theorem fi__law_is_kind (T : Tx mg C) : Fi P W0 mg base C 4 26 1 d__law_is_kind :=
  fi_ofD T.d__law_is_kind sc__law_is_kind bi__law_is_kind fun cdv A outer s H E hr tk po => (ssCons (sSet (i := 1) sc__law_is_kind.nd (eLst (aCons (eVar 0) aNil)))
  (ssCons (sSet (i := 2) sc__law_is_kind.nd eInt)
  (ssCons (sWh po (tCmp opGt (eB cLen T.n_len (aCons (eVar 1) aNil)) eInt rfl) (ssCons (sSet (i := 3) sc__law_is_kind.nd (eM0 (T := 0) PySem.F.plainAttrs_list PySem.F.slot_list_pop PySem.F.type_list_pop mePop (eVar 1)))
  (ssCons (sSet (i := 2) sc__law_is_kind.nd (eOp opAdd (eVar 2) eInt))
  (ssCons (sIf (L2.PW.pt (wOr (tCmp opGt (eVar 2) eInt rfl) (wOr (tNot' (tTru (eIsT .tup (eVar 3) (clB T.n_tuple) (ownF_ok ⟨T.ki_tuple, T.ins_Program⟩) T.n_isinstance))) (wOr (tCmp (opNe (L2.Room.units hr)) (eB cLen T.n_len (aCons (eVar 3) aNil)) eInt rfl) (wOr1 (tNot' (tTru (eCall ((fi__law_is_int T).mono (by first | decide | omega)) tk hr T.g__law_is_int (aCons (eIx (eVar 3) eInt) (aCons eInt (aCons eInt aNil))))))))))) (ssOne (sRet eBl)) ssNil)
  (ssCons (sIf (L2.PW.pt (wOr (tNot' (tTru (eIsT .tup (eIx (eVar 3) eInt) (clB T.n_tuple) (ownF_ok ⟨T.ki_tuple, T.ins_Program⟩) T.n_isinstance))) (wOr1 (tCmp opGt (eB cLen T.n_len (aCons (eIx (eVar 3) eInt) aNil)) eInt rfl)))) (ssOne (sRet eBl)) ssNil)
  (ssOne (sExpr (eM (T := 0) PySem.F.plainAttrs_list PySem.F.slot_list_extend PySem.F.type_list_extend meExtend (eVar 1) (aCons (eTy (cList rfl) T.n_list (aCons (eIx (eVar 3) eInt) aNil)) aNil)))))))))
  (ssOne (sRet eBl)))))
theorem sc__law_kind_word : FnScope ["kind", "inner", "one"] ["kind"] (defScope st__law_kind_word) := ⟨rfl, rfl, rfl, by decide +kernel, rfl, by decide +kernel, by decide +kernel⟩
theorem bi__law_kind_word : BindsD "_law_kind_word" "_law_kind_word" st__law_kind_word ["kind"] := fun _ _ _ _ _ _ us hl => match us, hl with | [_], _ => rfl
theorem fi__law_kind_word (T : Tx mg C) : ∀ n, Fi P W0 mg base C (2 + n) 27 1 (d__law_kind_word n)
  | 0 => fi_zero T.d__law_kind_word sc__law_kind_word bi__law_kind_word
  | n + 1 => by
    have ih : Fi P W0 mg base C (2 + n) 27 1 (d__law_kind_word n) := fi__law_kind_word T n
    exact fi_ofD (k := 2 + n) T.d__law_kind_word sc__law_kind_word bi__law_kind_word fun cdv A outer s H E hr tk po =>
  (ssCons (sSet (i := 1) sc__law_kind_word.nd (eOp opAdd (eOp opAdd (eStr [40] (by decide +kernel)) (eM (T := 2) PySem.F.plainAttrs_str PySem.F.slot_str_join PySem.F.type_str_join meJoin (eStr [44] (by decide +kernel)) (aCons (eNew (eLc (own := [("one", 2)]) sc__law_kind_word.nd (iT (eIx (eVar 0) eInt)) (blkOk_by (by kernel_rfl)) (fun _ _ _ _ _ => (gNm (i := 2) sc__law_kind_word.nd)) (fun _ _ _ _ _ => tsNil) (fun _ _ _ _ _ => (eCall ih tkF hr T.g__law_kind_word (aCons (eVar 2) aNil))))) aNil))) (eStr [41] (by decide +kernel))))
  (ssOne (sRet (eOp opAdd (eIx (eStr [43, 45] (by decide +kernel)) (eIx (eVar 0) eInt)) (eIf (tCmp (opNe (L2.Room.units hr)) (eIx (eVar 0) eInt) (eTup aNil) rfl) (eVar 1) (eStr [] (by decide +kernel)))))))
theorem sc__law_knots : FnScope ["kind", "found", "number", "inner", "path"] ["kind"] (defScope st__law_knots) := ⟨rfl, rfl, rfl, by decide +kernel, rfl, by decide +kernel, by decide +kernel⟩
theorem bi__law_knots : BindsD "_law_knots" "_law_knots" st__law_knots ["kind"] := fun _ _ _ _ _ _ us hl => match us, hl with | [_], _ => rfl
theorem fi__law_knots (T : Tx mg C) : ∀ n, Fi P W0 mg base C (2 + n) 28 1 (d__law_knots n)
  | 0 => fi_zero T.d__law_knots sc__law_knots bi__law_knots
  | n + 1 => by
    have ih : Fi P W0 mg base C (2 + n) 28 1 (d__law_knots n) := fi__law_knots T n
    exact fi_ofD (k := 2 + n) T.d__law_knots sc__law_knots bi__law_knots fun cdv A outer s H E hr tk po =>
  (ssCons (sSet (i := 1) sc__law_knots.nd (eLst (aCons (eTup aNil) aNil)))
  (ssCons (sFor po (iEnTup T.n_enumerate (aCons (eIx (eVar 0) eInt) aNil)) (gTp (gsCons (C := C) (gNm (i := 2) sc__law_knots.nd) (gsCons (C := C) (gNm (i := 3) sc__law_knots.nd) gsNil))) (ssOne (sExpr (eExtL (eVar 1) (eLc (own := [("path", 4)]) sc__law_knots.nd (iL (eCall ih tk hr T.g__law_knots (aCons (eVar 3) aNil))) (blkOk_by (by kernel_rfl)) (fun _ _ _ _ _ => (gNm (i := 4) sc__law_knots.nd)) (fun _ _ _ _ _ => tsNil) (fun _ _ _ _ _ => (eOp opAdd (eTup (aCons (eVar 2) aNil)) (eVar 4))))))))
  (ssOne (sRet (eB (cSort (OD.Room.u2 hr)) T.n_sorted (aCons (eVar 1) aNil))))))
theorem sc__law_some : FnScope ["bag", "things"] ["bag", "things"] (defScope st__law_some) := ⟨rfl, rfl, rfl, by decide +kernel, rfl, by decide +kernel, by decide +kernel⟩
theorem bi__law_some : BindsD "_law_some" "_law_some" st__law_some ["bag", "things"] := fun _ _ _ _ _ _ us hl => match us, hl with | [_, _], _ => rfl
theorem fi__law_some (T : Tx mg C) : Fi P W0 mg base C 4 29 2 d__law_some :=
  fi_ofD T.d__law_some sc__law_some bi__law_some fun cdv A outer s H E hr tk po => (ssOne (sRet (eIx (eVar 1) (eCall ((fi__law_pick T).mono (by first | decide | omega)) tk hr T.g__law_pick (aCons (eVar 0) (aCons (eB cLen T.n_len (aCons (eVar 1) aNil)) aNil))))))
theorem sc_check_kind : FnScope ["thing"] ["thing"] (defScope st_check_kind) := ⟨rfl, rfl, rfl, by decide +kernel, rfl, by decide +kernel, by decide +kernel⟩
theorem bi_check_kind : BindsD "check_kind" "check_kind" st_check_kind ["thing"] := fun _ _ _ _ _ _ us hl => match us, hl with | [_], _ => rfl
theorem fi_check_kind (T : Tx mg C) : Fi P W0 mg base C 8 30 1 d_check_kind :=
  fi_ofD T.d_check_kind sc_check_kind bi_check_kind fun cdv A outer s H E hr tk po => (ssOne (sIf (tNot' (tTru (eCall ((fi_is_kind_there T).mono (by first | decide | omega)) tk hr T.g_is_kind_there (aCons (eVar 0) aNil)))) (ssOne (sRaise0 T.x_NoKind tk T.g_NoKind)) ssNil))
theorem sc_counter_of : FnScope ["kind"] ["kind"] (defScope st_counter_of) := ⟨rfl, rfl, rfl, by decide +kernel, rfl, by decide +kernel, by decide +kernel⟩
theorem bi_counter_of : BindsD "counter_of" "counter_of" st_counter_of ["kind"] := fun _ _ _ _ _ _ us hl => match us, hl with | [_], _ => rfl
theorem fi_counter_of (T : Tx mg C) : Fi P W0 mg base C 2 31 1 d_counter_of :=
  fi_ofD T.d_counter_of sc_counter_of bi_counter_of fun cdv A outer s H E hr tk po => (ssOne (sRet (eTup (aCons (eOp opSub eInt (eIx (eVar 0) eInt)) (aCons (eIx (eVar 0) eInt) aNil)))))
theorem sc_counter : FnScope ["kind"] ["kind"] (defScope st_counter) := ⟨rfl, rfl, rfl, by decide +kernel, rfl, by decide +kernel, by decide +kernel⟩
theorem bi_counter : BindsD "counter" "counter" st_counter ["kind"] := fun _ _ _ _ _ _ us hl => match us, hl with | [_], _ => rfl
theorem fi_counter (T : Tx mg C) : Fi P W0 mg base C 10 32 1 d_counter :=
  fi_ofD T.d_counter sc_counter bi_counter fun cdv A outer s H E hr tk po => (ssCons (sExpr (eCall ((fi_check_kind T).mono (by first | decide | omega)) tk hr T.g_check_kind (aCons (eVar 0) aNil)))
  (ssOne (sRet (eCall ((fi_counter_of T).mono (by first | decide | omega)) tk hr T.g_counter_of (aCons (eVar 0) aNil)))))
theorem sc_kind_text_of : FnScope ["kind", "sign", "part"] ["kind"] (defScope st_kind_text_of) := ⟨rfl, rfl, rfl, by decide +kernel, rfl, by decide +kernel, by decide +kernel⟩
theorem bi_kind_text_of : BindsD "kind_text_of" "kind_text_of" st_kind_text_of ["kind"] := fun _ _ _ _ _ _ us hl => match us, hl with | [_], _ => rfl
theorem fi_kind_text_of (T : Tx mg C) : ∀ n, Fi P W0 mg base C (2 + n) 33 1 (d_kind_text_of n)
  | 0 => fi_zero T.d_kind_text_of sc_kind_text_of bi_kind_text_of
  | n + 1 => by
    have ih : Fi P W0 mg base C (2 + n) 33 1 (d_kind_text_of n) := fi_kind_text_of T n
    exact fi_ofD (k := 2 + n) T.d_kind_text_of sc_kind_text_of bi_kind_text_of fun cdv A outer s H E hr tk po =>
  (ssCons (sSet (i := 1) sc_kind_text_of.nd (eIf (tCmp (opEq (L2.Room.units hr)) (eIx (eVar 0) eInt) eInt rfl) (eStr [43] (by decide +kernel)) (eStr [45] (by decide +kernel))))
  (ssCons (sIf (tCmp (opEq (L2.Room.units hr)) (eB cLen T.n_len (aCons (eIx (eVar 0) eInt) aNil)) eInt rfl) (ssOne (sRet (eVar 1))) ssNil)
  (ssOne (sRet (eOp opAdd (eOp opAdd (eOp opAdd (eVar 1) (eStr [40] (by decide +kernel))) (eM (T := 2) PySem.F.plainAttrs_str PySem.F.slot_str_join PySem.F.type_str_join meJoin (eStr [44] (by decide +kernel)) (aCons (eNew (eLc (own := [("part", 2)]) sc_kind_text_of.nd (iT (eIx (eVar 0) eInt)) (blkOk_by (by kernel_rfl)) (fun _ _ _ _ _ => (gNm (i := 2) sc_kind_text_of.nd)) (fun _ _ _ _ _ => tsNil) (fun _ _ _ _ _ => (eCall ih tkF hr T.g_kind_text_of (aCons (eVar 2) aNil))))) aNil))) (eStr [41] (by decide +kernel)))))))
theorem sc_kind_text : FnScope ["kind"] ["kind"] (defScope st_kind_text) := ⟨rfl, rfl, rfl, by decide +kernel, rfl, by decide +kernel, by decide +kernel⟩
theorem bi_kind_text : BindsD "kind_text" "kind_text" st_kind_text ["kind"] := fun _ _ _ _ _ _ us hl => match us, hl with | [_], _ => rfl
theorem fi_kind_text (T : Tx mg C) : Fi P W0 mg base C 14 34 1 d_kind_text :=
  fi_ofD T.d_kind_text sc_kind_text bi_kind_text fun cdv A outer s H E hr tk po => (ssCons (sExpr (eCall ((fi_check_kind T).mono (by first | decide | omega)) tk hr T.g_check_kind (aCons (eVar 0) aNil)))
  (ssOne (sRet (eCall ((fi_kind_text_of T 10).mono (by first | decide | omega)) tk hr T.g_kind_text_of (aCons (eVar 0) aNil)))))
theorem sc_knots_of : FnScope ["kind", "found", "waiting", "path", "here", "k", "part"] ["kind"] (defScope st_knots_of) := ⟨rfl, rfl, rfl, by decide +kernel, rfl, by decide +kernel, by decide +kernel⟩
theorem bi_knots_of : BindsD "knots_of" "knots_of" st_knots_of ["kind"] := fun _ _ _ _ _ _ us hl => match us, hl with | [_], _ => rfl
theorem fi_knots_of (T : Tx mg C) : Fi P W0 mg base C 2 35 1 d_knots_of :=
  fi_ofD T.d_knots_of sc_knots_of bi_knots_of fun cdv A outer s H E hr tk po => (ssCons (sSet (i := 1) sc_knots_of.nd (eLst aNil))
  (ssCons (sSet (i := 2) sc_knots_of.nd (eLst (aCons (eTup (aCons (eTup aNil) (aCons (eVar 0) aNil))) aNil)))
  (ssCons (sWh po (tCmp opGt (eB cLen T.n_len (aCons (eVar 2) aNil)) eInt rfl) (ssCons (sAsg (eM0 (T := 0) PySem.F.plainAttrs_list PySem.F.slot_list_pop PySem.F.type_list_pop mePop (eVar 2)) (gTp (gsCons (C := C) (gNm (i := 3) sc_knots_of.nd) (gsCons (C := C) (gNm (i := 4) sc_knots_of.nd) gsNil))))
  (ssCons (sExpr (eM (T := 0) PySem.F.plainAttrs_list PySem.F.slot_list_append PySem.F.type_list_append meAppend (eVar 1) (aCons (eVar 3) aNil)))
  (ssOne (sExpr (eExtL (eVar 2) (eLc (own := [("k", 5), ("part", 6)]) sc_knots_of.nd (iEnTup T.n_enumerate (aCons (eIx (eVar 4) eInt) aNil)) (blkOk_by (by kernel_rfl)) (fun _ _ _ _ _ => (gTp (gsCons (C := C) (gNm (i := 5) sc_knots_of.nd) (gsCons (C := C) (gNm (i := 6) sc_knots_of.nd) gsNil)))) (fun _ _ _ _ _ => tsNil) (fun _ _ _ _ _ => (eTup (aCons (eOp opAdd (eVar 3) (eTup (aCons (eVar 5) aNil))) (aCons (eVar 6) aNil)))))))))))
  (ssOne (sRet (eB (cSort (OD.Room.u2 hr)) T.n_sorted (aCons (eVar 1) aNil)))))))
theorem sc_knots : FnScope ["kind"] ["kind"] (defScope st_knots) := ⟨rfl, rfl, rfl, by decide +kernel, rfl, by decide +kernel, by decide +kernel⟩
theorem bi_knots : BindsD "knots" "knots" st_knots ["kind"] := fun _ _ _ _ _ _ us hl => match us, hl with | [_], _ => rfl
theorem fi_knots (T : Tx mg C) : Fi P W0 mg base C 10 36 1 d_knots :=
  fi_ofD T.d_knots sc_knots bi_knots fun cdv A outer s H E hr tk po => (ssCons (sExpr (eCall ((fi_check_kind T).mono (by first | decide | omega)) tk hr T.g_check_kind (aCons (eVar 0) aNil)))
  (ssOne (sRet (eCall ((fi_knots_of T).mono (by first | decide | omega)) tk hr T.g_knots_of (aCons (eVar 0) aNil)))))
theorem sc__law_told : FnScope ["ask", "thing", "told", "e", "is_it"] ["ask", "thing"] (defScope st__law_told) := ⟨rfl, rfl, rfl, by decide +kernel, rfl, by decide +kernel, by decide +kernel⟩
theorem bi__law_told : BindsD "_law_told" "_law_told" st__law_told ["ask", "thing"] := fun _ _ _ _ _ _ us hl => match us, hl with | [_, _], _ => rfl
theorem tab__law_told_ask_ok (T : Tx mg C) {k : Nat} (hk : 14 ≤ k) : ∀ f n D, tab__law_told_ask f = some (n, D) → Fi P W0 mg base C k f n D := by
  intro f n D h
  unfold tab__law_told_ask at h
  split at h
  · cases h; exact (fi_counter T).mono (by omega)
  · cases h; exact (fi_knots T).mono (by omega)
  · cases h; exact (fi_kind_text T).mono (by omega)
  · cases h
theorem try_told {k : Nat} (T : Tx mg C) {cdv : Value} {A : Around} {outer : List PySem.Env} {s : Shared} {H : Hp} {E : XK}
    (hr : Room (k + 14) (cxD P W0 mg base C ["ask", "thing", "told", "e", "is_it"] "_law_told" st__law_told 37 cdv A outer s H E).A)
    (tk : Takes (cxD P W0 mg base C ["ask", "thing", "told", "e", "is_it"] "_law_told" st__law_told 37 cdv A outer s H E) (fun cls d _ H' => E cls d H')) :
    PS (cxD P W0 mg base C ["ask", "thing", "told", "e", "is_it"] "_law_told" st__law_told 37 cdv A outer s H E) ((defBody st__law_told).getD 1 (.Pass ⟨0, 0, 0, 0⟩)) (tS C (fun cls d _ H' => E cls d H') (mTry ctc_told ts_told sd_told)) := by
  refine sTry (i := 3) (cv := .ref (C.adr 42)) (ts := fun a cls d D σ H => cls = .ref (C.adr 42) ∧ d = none ∧ (tSeq (tAsg (tAndV (tIsE 3 a true) (tAndV (tIsE 3 a true) (tNotV (tIsE 3 a false)))) (gName 4)) (tS C WF (mAsg (.nm 2) (mTup (mCons (mIf (mTru (mVar 4)) (mK (.str [107, 105, 110, 100])) (mK (.str [111, 116, 104, 101, 114]))) (mCons (mK .non) mNil)))))) D σ H)
    sc__law_told.nd ⟨rfl, by decide, .inl T.g_NoKind⟩ tk (fun W' pn xe t po => ?_) (fun a oe cls d pn hz hf => ?_) (fun c k h => ?_) (fun w env S σ a c f d D ae sm xr ha hc p => ?_)
  · exact ssOne (sSet (i := 2) sc__law_told.nd (eTup (aCons (eStr [116, 111, 108, 100] (by decide +kernel)) (aCons (eCallL (tab__law_told_ask_ok T (k := k + 14) (by omega)) t hr (aCons (eVar 1) aNil)) aNil))))
  · refine pss_only fun h1 h2 => ?_
    subst h1 h2
    exact pss_cons (ps_set (i := 4) sc__law_told.nd rfl (Or.inl rfl) (pe_and (pe_isE (i := 3) (v := .ref (C.adr 40)) (cv := .ref (C.adr 40)) T.ec hz hf (pe_glob rfl T.g_DoorsError rfl) (fun u r => r) T.k_doors T.n_isinstance) (pe_and (pe_isE (i := 3) (v := .ty "ValueError") (cv := .type "ValueError") T.ec hz hf (pe_bltn rfl T.n_ValueError (by decide +kernel) rfl) (fun u r => r) T.k_value T.n_isinstance)
      (pe_one (pe_not (pe_isE (i := 3) (v := .ref (C.adr 41)) (cv := .ref (C.adr 41)) T.ec hz hf (pe_glob rfl T.g_BadProgram rfl) (fun u r => r) T.k_bad T.n_isinstance))))))
      (ssOne (sSet (i := 2) sc__law_told.nd (eTup (aCons (eIf (tTru (eVar 4)) (eStr [107, 105, 110, 100] (by decide +kernel)) (eStr [111, 116, 104, 101, 114] (by decide +kernel))) (aCons eNon aNil)))))
  · unfold ctc_told at h
    split at h
    · rename_i e
      subst e
      cases h
      exact T.exm_NoKind
    · cases h
  · unfold ctc_told at hc
    split at hc
    · rename_i e
      subst e
      cases f with
      | some q => exact p.elim
      | none =>
        have hd : d = none := by
          cases d with
          | none => rfl
          | some a => exact xr.elim
        subst hd
        unfold sd_told at p
        simp only at p
        split at p
        · rename_i hl
          have hl2 : σ.length = 5 := by rw [← ae.length]; exact hl
          have h3 : (σ.set 3 (some (V.ref a)))[3]? = some (some (.ref a)) := by
            rw [List.getElem?_set_self (by omega)]
          refine ⟨rfl, rfl, ⟨h3, true, rfl, ?_⟩⟩
          rw [if_pos rfl]
          refine ⟨h3, true, rfl, ?_⟩
          rw [if_pos rfl]
          refine ⟨h3, false, rfl, ?_⟩
          refine ⟨w, (env.set 3 none).set 4 (some (.bl true)), S, ⟨rfl, (EnvR.setAny 3 _ ae).set (.some (.bl true)) 4, sm⟩, ?_⟩
          cases e : (mAsg (.nm 2) (mTup (mCons (mIf (mTru (mVar 4)) (mK (.str [107, 105, 110, 100])) (mK (.str [111, 116, 104, 101, 114]))) (mCons (mK .non) mNil)))) ((env.set 3 none).set 4 (some (.bl true))) S with
          | nx e' S' =>
            rw [e] at p
            intro w' σ' l s' ae'
            exact p w' _ l s' (EnvR.setAny 3 none ae')
          | _ => rw [e] at p; exact p.elim
        · exact p.elim
    · cases hc
theorem fi__law_told (T : Tx mg C) : Fi P W0 mg base C 16 37 2 d__law_told :=
  fi_ofD T.d__law_told sc__law_told bi__law_told fun cdv A outer s H E hr tk po => (ssCons (sSet (i := 2) sc__law_told.nd (eTup (aCons (eStr [111, 116, 104, 101, 114] (by decide +kernel)) (aCons eNon aNil))))
  (ssCons (try_told T hr tk)
  (ssOne (sRet (eVar 2)))))
theorem sc_is_kind : FnScope ["thing"] ["thing"] (defScope st_is_kind) := ⟨rfl, rfl, rfl, by decide +kernel, rfl, by decide +kernel, by decide +kernel⟩
theorem bi_is_kind : BindsD "is_kind" "is_kind" st_is_kind ["thing"] := fun _ _ _ _ _ _ us hl => match us, hl with | [_], _ => rfl
theorem fi_is_kind (T : Tx mg C) : Fi P W0 mg base C 8 38 1 d_is_kind :=
  fi_ofD T.d_is_kind sc_is_kind bi_is_kind fun cdv A outer s H E hr tk po => (ssOne (sRet (eCall ((fi_is_kind_there T).mono (by first | decide | omega)) tk hr T.g_is_kind_there (aCons (eVar 0) aNil))))
theorem sc_law : FnScope ["script", "bag", "program", "turn", "thing", "odd", "change", "due", "told", "ask"] ["script"] (defScope st_law) := ⟨rfl, rfl, rfl, by decide +kernel, rfl, by decide +kernel, by decide +kernel⟩
theorem bi_law : BindsD "law" "law" st_law ["script"] := fun _ _ _ _ _ _ us hl => match us, hl with | [_], _ => rfl
theorem body_law (T : Tx mg C) (Z : Lz mg base C) (cdv : Value) : BodyD P W0 mg base C ["script", "bag", "program", "turn", "thing", "odd", "change", "due", "told", "ask"] "law" st_law 39 27 cdv b_law := fun A outer s H E hr tk po =>
  (ssCons (sSet (i := 1) sc_law.nd (eCall ((fi__law_bag T).mono (by first | decide | omega)) tk hr T.g__law_bag (aCons (eVar 0) aNil)))
  (ssCons (sSet (i := 2) sc_law.nd (eMake T.mk_Program ((fi_Program___init__ T Z).mono (by first | decide | omega)) tk (OD.Room.pred hr (by first | decide | omega)) T.g_Program (aCons (eTup (aCons (eTup (aCons (eTup aNil) (aCons (eTup aNil) aNil))) aNil)) aNil)))
  (ssCons (sFor po (iR1 T.n_range (aCons eInt aNil)) (gNm (i := 3) sc_law.nd) (ssCons (sSet (i := 4) sc_law.nd (eCall ((fi__law_grown T 10).mono (by first | decide | omega)) tk hr T.g__law_grown (aCons (eVar 1) (aCons (eOp opAdd eInt (eCall ((fi__law_pick T).mono (by first | decide | omega)) tk hr T.g__law_pick (aCons (eVar 1) (aCons eInt aNil)))) aNil))))
  (ssCons (sSet (i := 5) sc_law.nd (eLst (aCons eNon (aCons eBl (aCons eBl (aCons eInt (aCons (eUn unNeg eInt) (aCons (eStr [43] (by decide +kernel)) (aCons (eTup aNil) (aCons (eLst aNil) (aCons eDNew (aCons (eTup (aCons eInt aNil)) (aCons (eTup (aCons eInt (aCons (eTup aNil) aNil))) (aCons (eTup (aCons eInt (aCons (eTup aNil) aNil))) (aCons (eLst (aCons eInt (aCons (eTup aNil) aNil))) (aCons (eTup (aCons eInt (aCons (eLst aNil) aNil))) (aCons (eTup (aCons eBl (aCons (eTup aNil) aNil))) (aCons (eTup (aCons eInt (aCons eNon aNil))) aNil))))))))))))))))))
  (ssCons (sSet (i := 5) sc_law.nd (eOp opAdd (eVar 5) (eLst (aCons (eTup (aCons eInt (aCons (eTup aNil) aNil))) (aCons (eTup (aCons eInt (aCons (eTup aNil) (aCons (eTup aNil) aNil)))) (aCons (eTup (aCons (eTup (aCons eInt (aCons (eTup aNil) aNil))) aNil)) (aCons (eTup (aCons eInt (aCons (eOp opMulT (eTup (aCons (eTup (aCons eInt (aCons (eTup aNil) aNil))) aNil)) eInt) aNil))) (aCons (eVar 2) (aCons (eCall0 ((fi__law_deep T).mono (by first | decide | omega)) tk hr T.g__law_deep) (aCons (eOp opPow eInt eInt) (aCons eInt (aCons eInt aNil))))))))))))
  (ssCons (sFor po (iR1 T.n_range (aCons (eCall ((fi__law_pick T).mono (by first | decide | omega)) tk hr T.g__law_pick (aCons (eVar 1) (aCons eInt aNil))) aNil)) (gNm (i := 6) sc_law.nd) (ssOne (sSet (i := 4) sc_law.nd (eCall ((fi__law_changed T 10).mono (by first | decide | omega)) tk hr T.g__law_changed (aCons (eVar 1) (aCons (eVar 4) (aCons (eCall ((fi__law_some T).mono (by first | decide | omega)) tk hr T.g__law_some (aCons (eVar 1) (aCons (eVar 5) aNil))) (aCons eInt aNil))))))))
  (ssCons (sSet (i := 7) sc_law.nd (eCall ((fi__law_is_kind T).mono (by first | decide | omega)) tk hr T.g__law_is_kind (aCons (eVar 4) aNil)))
  (ssCons (sIf (tNot' (tTru (eCall ((fi__law_is T 24).mono (by first | decide | omega)) tk hr T.g__law_is (aCons (eCall ((fi_is_kind T).mono (by first | decide | omega)) tk hr T.g_is_kind (aCons (eVar 4) aNil)) (aCons (eVar 7) aNil))))) (ssOne (sRet eBl)) ssNil)
  (ssOne (sIf (tNot' (tTru (eVar 7))) (ssOne (sIf (tTru (eBL cAny T.n_any (eLc (own := [("ask", 9)]) sc_law.nd (iL (eLst (aCons (eFn 32 rfl T.g_counter) (aCons (eFn 36 rfl T.g_knots) (aCons (eFn 34 rfl T.g_kind_text) aNil))))) (blkOk_by (by kernel_rfl)) (fun _ _ _ _ _ => (gNm (i := 9) sc_law.nd)) (fun _ _ _ _ _ => tsNil) (fun _ _ _ _ _ => (eCmp (opNe (L2.Room.units hr)) (eCall ((fi__law_told T).mono (by first | decide | omega)) tkF hr T.g__law_told (aCons (eVar 9) (aCons (eVar 4) aNil))) (eTup (aCons (eStr [107, 105, 110, 100] (by decide +kernel)) (aCons eNon aNil))) rfl))))) (ssOne (sRet eBl)) ssNil)) (ssCons (sSet (i := 8) sc_law.nd (eCall ((fi_knots T).mono (by first | decide | omega)) tk hr T.g_knots (aCons (eVar 4) aNil)))
  (ssCons (sIf (L2.PW.pt (wOr (tNot' (tTru (eCall ((fi__law_is T 24).mono (by first | decide | omega)) tk hr T.g__law_is (aCons (eCall ((fi_counter T).mono (by first | decide | omega)) tk hr T.g_counter (aCons (eVar 4) aNil)) (aCons (eTup (aCons (eOp opSub eInt (eIx (eVar 4) eInt)) (aCons (eIx (eVar 4) eInt) aNil))) aNil))))) (wOr1 (tCmp (opNe (L2.Room.units hr)) (eCall ((fi_counter T).mono (by first | decide | omega)) tk hr T.g_counter (aCons (eCall ((fi_counter T).mono (by first | decide | omega)) tk hr T.g_counter (aCons (eVar 4) aNil)) aNil)) (eVar 4) rfl)))) (ssOne (sRet eBl)) ssNil)
  (ssCons (sIf (L2.PW.pt (wOr (tNot' (tTru (eCall ((fi__law_is T 24).mono (by first | decide | omega)) tk hr T.g__law_is (aCons (eVar 8) (aCons (eCall ((fi__law_knots T 10).mono (by first | decide | omega)) tk hr T.g__law_knots (aCons (eVar 4) aNil)) aNil))))) (wOr1 (tCmp (opNe (L2.Room.units hr)) (eCall ((fi_kind_text T).mono (by first | decide | omega)) tk hr T.g_kind_text (aCons (eVar 4) aNil)) (eCall ((fi__law_kind_word T 10).mono (by first | decide | omega)) tk hr T.g__law_kind_word (aCons (eVar 4) aNil)) rfl)))) (ssOne (sRet eBl)) ssNil)
  (ssCons (sExpr (eM (T := 0) PySem.F.plainAttrs_list PySem.F.slot_list_append PySem.F.type_list_append meAppend (eVar 8) (aCons (eTup aNil) aNil)))
  (ssOne (sIf (tCmp (opEq (L2.Room.units hr)) (eCall ((fi_knots T).mono (by first | decide | omega)) tk hr T.g_knots (aCons (eVar 4) aNil)) (eVar 8) rfl) (ssOne (sRet eBl)) ssNil)))))))))))))))
  (ssOne (sRet eBl)))))
end
end K01
end

section
set_option Elab.async false
set_option linter.all false
set_option autoImplicit false
set_option maxRecDepth 100000
set_option maxHeartbeats 0
/-! printed by gen.py: the head with facts, the end -/
namespace K01
open PySem L2 OD
theorem exAt {fs : List (PySem.W.Frag → Bool)} {K : PySem.W.Frag} (h : (fs.all fun f => f K) = true) (i : Nat) {f : PySem.W.Frag → Bool} (e : fs[i]? = some f) : f K = true := List.all_eq_true.mp h f (List.mem_of_getElem? e)
def dd_can_end : He.DefD := ⟨("can_end", none), "can_end", "can_end", defArgs st_can_end, defBody st_can_end, defScope st_can_end, [], []⟩
def dd_ending_of : He.DefD := ⟨("ending_of", none), "ending_of", "ending_of", defArgs st_ending_of, defBody st_ending_of, defScope st_ending_of, [], []⟩
def dd_Walk___init__ : He.DefD := ⟨("Walk", some "__init__"), "__init__", "Walk.__init__", defArgs st_Walk___init__, defBody st_Walk___init__, defScope st_Walk___init__, [], []⟩
def dd_Walk_block : He.DefD := ⟨("Walk", some "block"), "block", "Walk.block", defArgs st_Walk_block, defBody st_Walk_block, defScope st_Walk_block, [], []⟩
def dd_Walk_born : He.DefD := ⟨("Walk", some "born"), "born", "Walk.born", defArgs st_Walk_born, defBody st_Walk_born, defScope st_Walk_born, [], []⟩
def dd_fault_of : He.DefD := ⟨("fault_of", none), "fault_of", "fault_of", defArgs st_fault_of, defBody st_fault_of, defScope st_fault_of, [], []⟩
def dd_are_unlike : He.DefD := ⟨("are_unlike", none), "are_unlike", "are_unlike", defArgs st_are_unlike, defBody st_are_unlike, defScope st_are_unlike, [], []⟩
def dd_is_pair : He.DefD := ⟨("is_pair", none), "is_pair", "is_pair", defArgs st_is_pair, defBody st_is_pair, defScope st_is_pair, [], []⟩
def dd_is_integer : He.DefD := ⟨("is_integer", none), "is_integer", "is_integer", defArgs st_is_integer, defBody st_is_integer, defScope st_is_integer, [], []⟩
def dd_is_within : He.DefD := ⟨("is_within", none), "is_within", "is_within", defArgs st_is_within, defBody st_is_within, defScope st_is_within, [], []⟩
def dd_is_kind_there : He.DefD := ⟨("is_kind_there", none), "is_kind_there", "is_kind_there", defArgs st_is_kind_there, defBody st_is_kind_there, defScope st_is_kind_there, [], []⟩
def dd_are_params : He.DefD := ⟨("are_params", none), "are_params", "are_params", defArgs st_are_params, defBody st_are_params, defScope st_are_params, [], []⟩
def dd_is_block : He.DefD := ⟨("is_block", none), "is_block", "is_block", defArgs st_is_block, defBody st_is_block, defScope st_is_block, [], []⟩
def dd_is_procedure : He.DefD := ⟨("is_procedure", none), "is_procedure", "is_procedure", defArgs st_is_procedure, defBody st_is_procedure, defScope st_is_procedure, [], []⟩
def dd_lay_rows : He.DefD := ⟨("lay_rows", none), "lay_rows", "lay_rows", defArgs st_lay_rows, defBody st_lay_rows, defScope st_lay_rows, [], []⟩
def dd_rows_of : He.DefD := ⟨("rows_of", none), "rows_of", "rows_of", defArgs st_rows_of, defBody st_rows_of, defScope st_rows_of, [], []⟩
def dd_targets_of : He.DefD := ⟨("targets_of", none), "targets_of", "targets_of", defArgs st_targets_of, defBody st_targets_of, defScope st_targets_of, [], []⟩
def dd_led_to : He.DefD := ⟨("led_to", none), "led_to", "led_to", defArgs st_led_to, defBody st_led_to, defScope st_led_to, [], []⟩
def dd_Program___init__ : He.DefD := ⟨("Program", some "__init__"), "__init__", "Program.__init__", defArgs st_Program___init__, defBody st_Program___init__, defScope st_Program___init__, [], []⟩
def dd__law_bag : He.DefD := ⟨("_law_bag", none), "_law_bag", "_law_bag", defArgs st__law_bag, defBody st__law_bag, defScope st__law_bag, [], []⟩
def dd__law_pick : He.DefD := ⟨("_law_pick", none), "_law_pick", "_law_pick", defArgs st__law_pick, defBody st__law_pick, defScope st__law_pick, [], []⟩
def dd__law_changed : He.DefD := ⟨("_law_changed", none), "_law_changed", "_law_changed", defArgs st__law_changed, defBody st__law_changed, defScope st__law_changed, [], []⟩
def dd__law_deep : He.DefD := ⟨("_law_deep", none), "_law_deep", "_law_deep", defArgs st__law_deep, defBody st__law_deep, defScope st__law_deep, [], []⟩
def dd__law_grown : He.DefD := ⟨("_law_grown", none), "_law_grown", "_law_grown", defArgs st__law_grown, defBody st__law_grown, defScope st__law_grown, [], []⟩
def dd__law_is : He.DefD := ⟨("_law_is", none), "_law_is", "_law_is", defArgs st__law_is, defBody st__law_is, defScope st__law_is, [], []⟩
def dd__law_is_int : He.DefD := ⟨("_law_is_int", none), "_law_is_int", "_law_is_int", defArgs st__law_is_int, defBody st__law_is_int, defScope st__law_is_int, [], []⟩
def dd__law_is_kind : He.DefD := ⟨("_law_is_kind", none), "_law_is_kind", "_law_is_kind", defArgs st__law_is_kind, defBody st__law_is_kind, defScope st__law_is_kind, [], []⟩
def dd__law_kind_word : He.DefD := ⟨("_law_kind_word", none), "_law_kind_word", "_law_kind_word", defArgs st__law_kind_word, defBody st__law_kind_word, defScope st__law_kind_word, [], []⟩
def dd__law_knots : He.DefD := ⟨("_law_knots", none), "_law_knots", "_law_knots", defArgs st__law_knots, defBody st__law_knots, defScope st__law_knots, [], []⟩
def dd__law_some : He.DefD := ⟨("_law_some", none), "_law_some", "_law_some", defArgs st__law_some, defBody st__law_some, defScope st__law_some, [], []⟩
def dd_check_kind : He.DefD := ⟨("check_kind", none), "check_kind", "check_kind", defArgs st_check_kind, defBody st_check_kind, defScope st_check_kind, [], []⟩
def dd_counter_of : He.DefD := ⟨("counter_of", none), "counter_of", "counter_of", defArgs st_counter_of, defBody st_counter_of, defScope st_counter_of, [], []⟩
def dd_counter : He.DefD := ⟨("counter", none), "counter", "counter", defArgs st_counter, defBody st_counter, defScope st_counter, [], []⟩
def dd_kind_text_of : He.DefD := ⟨("kind_text_of", none), "kind_text_of", "kind_text_of", defArgs st_kind_text_of, defBody st_kind_text_of, defScope st_kind_text_of, [], []⟩
def dd_kind_text : He.DefD := ⟨("kind_text", none), "kind_text", "kind_text", defArgs st_kind_text, defBody st_kind_text, defScope st_kind_text, [], []⟩
def dd_knots_of : He.DefD := ⟨("knots_of", none), "knots_of", "knots_of", defArgs st_knots_of, defBody st_knots_of, defScope st_knots_of, [], []⟩
def dd_knots : He.DefD := ⟨("knots", none), "knots", "knots", defArgs st_knots, defBody st_knots, defScope st_knots, [], []⟩
def dd__law_told : He.DefD := ⟨("_law_told", none), "_law_told", "_law_told", defArgs st__law_told, defBody st__law_told, defScope st__law_told, [], []⟩
def dd_is_kind : He.DefD := ⟨("is_kind", none), "is_kind", "is_kind", defArgs st_is_kind, defBody st_is_kind, defScope st_is_kind, [], []⟩
def dd_law : He.DefD := ⟨("law", none), "law", "law", defArgs st_law, defBody st_law, defScope st_law, [], []⟩
def fns0 : List He.DefD := [dd_can_end,
  dd_ending_of,
  dd_Walk___init__,
  dd_Walk_block,
  dd_Walk_born,
  dd_fault_of,
  dd_are_unlike,
  dd_is_pair,
  dd_is_integer,
  dd_is_within,
  dd_is_kind_there,
  dd_are_params,
  dd_is_block,
  dd_is_procedure,
  dd_lay_rows,
  dd_rows_of,
  dd_targets_of,
  dd_led_to,
  dd_Program___init__,
  dd__law_bag]
def fns1 : List He.DefD := [dd__law_pick,
  dd__law_changed,
  dd__law_deep,
  dd__law_grown,
  dd__law_is,
  dd__law_is_int,
  dd__law_is_kind,
  dd__law_kind_word,
  dd__law_knots,
  dd__law_some,
  dd_check_kind,
  dd_counter_of,
  dd_counter,
  dd_kind_text_of,
  dd_kind_text,
  dd_knots_of,
  dd_knots,
  dd__law_told,
  dd_is_kind,
  dd_law]
def fns : List He.DefD := fns0 ++ fns1
def fas0 : List He.Fa := [.glo "can_end",
  .glo "ending_of",
  .glo "fault_of",
  .glo "are_unlike",
  .glo "is_pair",
  .glo "is_integer",
  .glo "is_within",
  .glo "is_kind_there",
  .glo "are_params",
  .glo "is_block",
  .glo "is_procedure",
  .glo "lay_rows",
  .glo "rows_of",
  .glo "targets_of",
  .glo "led_to",
  .glo "_law_bag",
  .glo "_law_pick",
  .glo "_law_changed",
  .glo "_law_deep",
  .glo "_law_grown"]
def fas1 : List He.Fa := [.glo "_law_is",
  .glo "_law_is_int",
  .glo "_law_is_kind",
  .glo "_law_kind_word",
  .glo "_law_knots",
  .glo "_law_some",
  .glo "check_kind",
  .glo "counter_of",
  .glo "counter",
  .glo "kind_text_of",
  .glo "kind_text",
  .glo "knots_of",
  .glo "knots",
  .glo "_law_told",
  .glo "is_kind",
  .glo "law",
  .glo "DoorsError",
  .glo "BadProgram",
  .glo "NoKind",
  .glo "Walk"]
def fas2 : List He.Fa := [.glo "Program",
  .int "MOST_DEEP" 4,
  .int "MOST_EITHERS" 6,
  .int "MOST_GIVEN" 3,
  .int "MOST_IN_BLOCK" 12,
  .int "MOST_KNOTS" 6,
  .int "MOST_PARAMS" 4,
  .int "MOST_PROCEDURES" 8,
  .int "MOST_STEPS" 24,
  .free "abs",
  .free "all",
  .free "any",
  .free "bool",
  .free "dict",
  .free "enumerate",
  .free "int",
  .free "isinstance",
  .free "len",
  .free "list",
  .free "range"]
def fas3 : List He.Fa := [.free "set",
  .free "sorted",
  .free "sum",
  .free "tuple",
  .free "zip",
  .cls "Program",
  .noat "Program" "procedures",
  .cls "Walk",
  .noat "Walk" "made",
  .noat "Walk" "params_of",
  .noat "Walk" "place",
  .meth "Walk" "block",
  .meth "Walk" "born",
  .mkr "Program",
  .mkr "Walk",
  .exc "NoKind",
  .exm "NoKind" "NoKind" true,
  .free "ValueError"]
def fas : List He.Fa := fas0 ++ fas1 ++ fas2 ++ fas3
def exs0 : List (PySem.W.Frag → Bool) := [fun K => He.eqO (PySem.W.findIn K (.ref (He.ga K "Program")) "__class__") (some (some (.builtin "object.__class__"))),
  fun K => He.eqO (PySem.W.specialIn K (.builtin "object.__class__") "__get__") (some (some (.builtin "getset_descriptor.__get__"))),
  fun K => decide (PySem.W.takesIn K (.builtin "object.__class__") = some true),
  fun K => decide (PySem.W.mroIn K (He.ga K "Program") (.type "object") = some true),
  fun K => decide (PySem.W.kitOne K (.ref (He.ga K "Program")) (.type "int") = some false),
  fun K => decide (PySem.W.kitOne K (.ref (He.ga K "Program")) (.type "bool") = some false),
  fun K => decide (PySem.W.kitOne K (.ref (He.ga K "Program")) (.type "tuple") = some false),
  fun K => decide (PySem.W.kitOne K (.ref (He.ga K "Program")) (.type "list") = some false),
  fun K => decide (PySem.W.kitOne K (.ref (He.ga K "Program")) (.type "dict") = some false),
  fun K => He.eqO (PySem.W.findIn K (.ref (He.ga K "NoKind")) "__class__") (some (some (.builtin "object.__class__"))),
  fun K => decide (PySem.W.mroIn K (He.ga K "NoKind") (.type "object") = some true),
  fun K => He.eqO (PySem.W.findIn K (.ref (He.ga K "NoKind")) "__getattribute__") (some (some (.builtin "BaseException.__getattribute__"))),
  fun K => He.eqO (PySem.W.findIn K (.ref (He.ga K "NoKind")) "__getattr__") (some none),
  fun K => decide (PySem.W.subIn K (.ref (He.ga K "NoKind")) (.type "BaseException") = some true),
  fun K => PySem.W.hasDictIn K (He.ga K "NoKind"),
  fun K => decide (PySem.W.kitOne K (.ref (He.ga K "NoKind")) (.ref (He.ga K "DoorsError")) = some true),
  fun K => decide (PySem.W.kitOne K (.ref (He.ga K "NoKind")) (.type "ValueError") = some true),
  fun K => decide (PySem.W.kitOne K (.ref (He.ga K "NoKind")) (.ref (He.ga K "BadProgram")) = some false),
  fun K => decide ((He.cT K ("Program", some "__init__")).2 ≠ (He.cT K ("is_procedure", none)).2)]
def exs : List (PySem.W.Frag → Bool) := exs0
def exB (K : PySem.W.Frag) : Bool := exs.all fun f => f K
def tfs : List He.Defn := [("is_procedure", none), ("Program", some "__init__")]
def tabsC (K : PySem.W.Frag) : List (Addr × Str) := [((He.cT K ("is_procedure", none)).2, ("is_procedure" : Str) ++ ".<locals>." ++ "<lambda>"), ((He.cT K ("Program", some "__init__")).2, ("Program.__init__" : Str) ++ ".<locals>." ++ "<lambda>")]
abbrev ct (K : PySem.W.Frag) (a : Addr) (ns : List Int) : Ct := ctOf K ents flds (tabsC K) a ns
section
variable {K : PySem.W.Frag} {w : World} {h : Heap} {mg : Str → Option Value}
theorem tx_of (X : K.In h) (G : h.Ns mainGlobals mg) (c : He.SaysX fas fns [] tfs exB w h K) (a : Addr) (ns : List Int) : Tx mg (ct K a ns) where
  g_can_end := He.glo_ok X G (c.t.d.fact 0 (f := .glo "can_end") (by rfl))
  d_can_end := c.t.d.def_ 0 (d := dd_can_end) (by rfl)
  g_ending_of := He.glo_ok X G (c.t.d.fact 1 (f := .glo "ending_of") (by rfl))
  d_ending_of := c.t.d.def_ 1 (d := dd_ending_of) (by rfl)
  d_Walk___init__ := c.t.d.def_ 2 (d := dd_Walk___init__) (by rfl)
  d_Walk_block := c.t.d.def_ 3 (d := dd_Walk_block) (by rfl)
  d_Walk_born := c.t.d.def_ 4 (d := dd_Walk_born) (by rfl)
  g_fault_of := He.glo_ok X G (c.t.d.fact 2 (f := .glo "fault_of") (by rfl))
  d_fault_of := c.t.d.def_ 5 (d := dd_fault_of) (by rfl)
  g_are_unlike := He.glo_ok X G (c.t.d.fact 3 (f := .glo "are_unlike") (by rfl))
  d_are_unlike := c.t.d.def_ 6 (d := dd_are_unlike) (by rfl)
  g_is_pair := He.glo_ok X G (c.t.d.fact 4 (f := .glo "is_pair") (by rfl))
  d_is_pair := c.t.d.def_ 7 (d := dd_is_pair) (by rfl)
  g_is_integer := He.glo_ok X G (c.t.d.fact 5 (f := .glo "is_integer") (by rfl))
  d_is_integer := c.t.d.def_ 8 (d := dd_is_integer) (by rfl)
  g_is_within := He.glo_ok X G (c.t.d.fact 6 (f := .glo "is_within") (by rfl))
  d_is_within := c.t.d.def_ 9 (d := dd_is_within) (by rfl)
  g_is_kind_there := He.glo_ok X G (c.t.d.fact 7 (f := .glo "is_kind_there") (by rfl))
  d_is_kind_there := c.t.d.def_ 10 (d := dd_is_kind_there) (by rfl)
  g_are_params := He.glo_ok X G (c.t.d.fact 8 (f := .glo "are_params") (by rfl))
  d_are_params := c.t.d.def_ 11 (d := dd_are_params) (by rfl)
  g_is_block := He.glo_ok X G (c.t.d.fact 9 (f := .glo "is_block") (by rfl))
  d_is_block := c.t.d.def_ 12 (d := dd_is_block) (by rfl)
  g_is_procedure := He.glo_ok X G (c.t.d.fact 10 (f := .glo "is_procedure") (by rfl))
  d_is_procedure := c.t.d.def_ 13 (d := dd_is_procedure) (by rfl)
  g_lay_rows := He.glo_ok X G (c.t.d.fact 11 (f := .glo "lay_rows") (by rfl))
  d_lay_rows := c.t.d.def_ 14 (d := dd_lay_rows) (by rfl)
  g_rows_of := He.glo_ok X G (c.t.d.fact 12 (f := .glo "rows_of") (by rfl))
  d_rows_of := c.t.d.def_ 15 (d := dd_rows_of) (by rfl)
  g_targets_of := He.glo_ok X G (c.t.d.fact 13 (f := .glo "targets_of") (by rfl))
  d_targets_of := c.t.d.def_ 16 (d := dd_targets_of) (by rfl)
  g_led_to := He.glo_ok X G (c.t.d.fact 14 (f := .glo "led_to") (by rfl))
  d_led_to := c.t.d.def_ 17 (d := dd_led_to) (by rfl)
  d_Program___init__ := c.t.d.def_ 18 (d := dd_Program___init__) (by rfl)
  g__law_bag := He.glo_ok X G (c.t.d.fact 15 (f := .glo "_law_bag") (by rfl))
  d__law_bag := c.t.d.def_ 19 (d := dd__law_bag) (by rfl)
  g__law_pick := He.glo_ok X G (c.t.d.fact 16 (f := .glo "_law_pick") (by rfl))
  d__law_pick := c.t.d.def_ 20 (d := dd__law_pick) (by rfl)
  g__law_changed := He.glo_ok X G (c.t.d.fact 17 (f := .glo "_law_changed") (by rfl))
  d__law_changed := c.t.d.def_ 21 (d := dd__law_changed) (by rfl)
  g__law_deep := He.glo_ok X G (c.t.d.fact 18 (f := .glo "_law_deep") (by rfl))
  d__law_deep := c.t.d.def_ 22 (d := dd__law_deep) (by rfl)
  g__law_grown := He.glo_ok X G (c.t.d.fact 19 (f := .glo "_law_grown") (by rfl))
  d__law_grown := c.t.d.def_ 23 (d := dd__law_grown) (by rfl)
  g__law_is := He.glo_ok X G (c.t.d.fact 20 (f := .glo "_law_is") (by rfl))
  d__law_is := c.t.d.def_ 24 (d := dd__law_is) (by rfl)
  g__law_is_int := He.glo_ok X G (c.t.d.fact 21 (f := .glo "_law_is_int") (by rfl))
  d__law_is_int := c.t.d.def_ 25 (d := dd__law_is_int) (by rfl)
  g__law_is_kind := He.glo_ok X G (c.t.d.fact 22 (f := .glo "_law_is_kind") (by rfl))
  d__law_is_kind := c.t.d.def_ 26 (d := dd__law_is_kind) (by rfl)
  g__law_kind_word := He.glo_ok X G (c.t.d.fact 23 (f := .glo "_law_kind_word") (by rfl))
  d__law_kind_word := c.t.d.def_ 27 (d := dd__law_kind_word) (by rfl)
  g__law_knots := He.glo_ok X G (c.t.d.fact 24 (f := .glo "_law_knots") (by rfl))
  d__law_knots := c.t.d.def_ 28 (d := dd__law_knots) (by rfl)
  g__law_some := He.glo_ok X G (c.t.d.fact 25 (f := .glo "_law_some") (by rfl))
  d__law_some := c.t.d.def_ 29 (d := dd__law_some) (by rfl)
  g_check_kind := He.glo_ok X G (c.t.d.fact 26 (f := .glo "check_kind") (by rfl))
  d_check_kind := c.t.d.def_ 30 (d := dd_check_kind) (by rfl)
  g_counter_of := He.glo_ok X G (c.t.d.fact 27 (f := .glo "counter_of") (by rfl))
  d_counter_of := c.t.d.def_ 31 (d := dd_counter_of) (by rfl)
  g_counter := He.glo_ok X G (c.t.d.fact 28 (f := .glo "counter") (by rfl))
  d_counter := c.t.d.def_ 32 (d := dd_counter) (by rfl)
  g_kind_text_of := He.glo_ok X G (c.t.d.fact 29 (f := .glo "kind_text_of") (by rfl))
  d_kind_text_of := c.t.d.def_ 33 (d := dd_kind_text_of) (by rfl)
  g_kind_text := He.glo_ok X G (c.t.d.fact 30 (f := .glo "kind_text") (by rfl))
  d_kind_text := c.t.d.def_ 34 (d := dd_kind_text) (by rfl)
  g_knots_of := He.glo_ok X G (c.t.d.fact 31 (f := .glo "knots_of") (by rfl))
  d_knots_of := c.t.d.def_ 35 (d := dd_knots_of) (by rfl)
  g_knots := He.glo_ok X G (c.t.d.fact 32 (f := .glo "knots") (by rfl))
  d_knots := c.t.d.def_ 36 (d := dd_knots) (by rfl)
  g__law_told := He.glo_ok X G (c.t.d.fact 33 (f := .glo "_law_told") (by rfl))
  d__law_told := c.t.d.def_ 37 (d := dd__law_told) (by rfl)
  g_is_kind := He.glo_ok X G (c.t.d.fact 34 (f := .glo "is_kind") (by rfl))
  d_is_kind := c.t.d.def_ 38 (d := dd_is_kind) (by rfl)
  g_law := He.glo_ok X G (c.t.d.fact 35 (f := .glo "law") (by rfl))
  d_law := c.t.d.def_ 39 (d := dd_law) (by rfl)
  g_DoorsError := He.glo_ok X G (c.t.d.fact 36 (f := .glo "DoorsError") (by rfl))
  g_BadProgram := He.glo_ok X G (c.t.d.fact 37 (f := .glo "BadProgram") (by rfl))
  g_NoKind := He.glo_ok X G (c.t.d.fact 38 (f := .glo "NoKind") (by rfl))
  g_Walk := He.glo_ok X G (c.t.d.fact 39 (f := .glo "Walk") (by rfl))
  g_Program := He.glo_ok X G (c.t.d.fact 40 (f := .glo "Program") (by rfl))
  c_MOST_DEEP := He.int_ok X G (c.t.d.fact 41 (f := .int "MOST_DEEP" 4) (by rfl))
  c_MOST_EITHERS := He.int_ok X G (c.t.d.fact 42 (f := .int "MOST_EITHERS" 6) (by rfl))
  c_MOST_GIVEN := He.int_ok X G (c.t.d.fact 43 (f := .int "MOST_GIVEN" 3) (by rfl))
  c_MOST_IN_BLOCK := He.int_ok X G (c.t.d.fact 44 (f := .int "MOST_IN_BLOCK" 12) (by rfl))
  c_MOST_KNOTS := He.int_ok X G (c.t.d.fact 45 (f := .int "MOST_KNOTS" 6) (by rfl))
  c_MOST_PARAMS := He.int_ok X G (c.t.d.fact 46 (f := .int "MOST_PARAMS" 4) (by rfl))
  c_MOST_PROCEDURES := He.int_ok X G (c.t.d.fact 47 (f := .int "MOST_PROCEDURES" 8) (by rfl))
  c_MOST_STEPS := He.int_ok X G (c.t.d.fact 48 (f := .int "MOST_STEPS" 24) (by rfl))
  n_abs := He.free_ok X G (c.t.d.fact 49 (f := .free "abs") (by rfl))
  n_all := He.free_ok X G (c.t.d.fact 50 (f := .free "all") (by rfl))
  n_any := He.free_ok X G (c.t.d.fact 51 (f := .free "any") (by rfl))
  n_bool := He.free_ok X G (c.t.d.fact 52 (f := .free "bool") (by rfl))
  n_dict := He.free_ok X G (c.t.d.fact 53 (f := .free "dict") (by rfl))
  n_enumerate := He.free_ok X G (c.t.d.fact 54 (f := .free "enumerate") (by rfl))
  n_int := He.free_ok X G (c.t.d.fact 55 (f := .free "int") (by rfl))
  n_isinstance := He.free_ok X G (c.t.d.fact 56 (f := .free "isinstance") (by rfl))
  n_len := He.free_ok X G (c.t.d.fact 57 (f := .free "len") (by rfl))
  n_list := He.free_ok X G (c.t.d.fact 58 (f := .free "list") (by rfl))
  n_range := He.free_ok X G (c.t.d.fact 59 (f := .free "range") (by rfl))
  n_set := He.free_ok X G (c.t.d.fact 60 (f := .free "set") (by rfl))
  n_sorted := He.free_ok X G (c.t.d.fact 61 (f := .free "sorted") (by rfl))
  n_sum := He.free_ok X G (c.t.d.fact 62 (f := .free "sum") (by rfl))
  n_tuple := He.free_ok X G (c.t.d.fact 63 (f := .free "tuple") (by rfl))
  n_zip := He.free_ok X G (c.t.d.fact 64 (f := .free "zip") (by rfl))
  f_Program_procedures := ⟨(He.cls_ok (c.t.d.fact 65 (f := .cls "Program") (by rfl))), He.noat_ok (c.t.d.fact 66 (f := .noat "Program" "procedures") (by rfl)), fldOf_inj (fs := flds) (by decide +kernel) 3⟩
  f_Walk_made := ⟨(He.cls_ok (c.t.d.fact 67 (f := .cls "Walk") (by rfl))), He.noat_ok (c.t.d.fact 68 (f := .noat "Walk" "made") (by rfl)), fldOf_inj (fs := flds) (by decide +kernel) 1⟩
  f_Walk_params_of := ⟨(He.cls_ok (c.t.d.fact 67 (f := .cls "Walk") (by rfl))), He.noat_ok (c.t.d.fact 69 (f := .noat "Walk" "params_of") (by rfl)), fldOf_inj (fs := flds) (by decide +kernel) 0⟩
  f_Walk_place := ⟨(He.cls_ok (c.t.d.fact 67 (f := .cls "Walk") (by rfl))), He.noat_ok (c.t.d.fact 70 (f := .noat "Walk" "place") (by rfl)), fldOf_inj (fs := flds) (by decide +kernel) 2⟩
  nf_params_of := rfl
  nf_made := rfl
  nf_place := rfl
  nf_procedures := rfl
  m_Walk_block := ⟨(He.cls_ok (c.t.d.fact 67 (f := .cls "Walk") (by rfl))), He.meth_ok (c.t.d.fact 71 (f := .meth "Walk" "block") (by rfl))⟩
  m_Walk_born := ⟨(He.cls_ok (c.t.d.fact 67 (f := .cls "Walk") (by rfl))), He.meth_ok (c.t.d.fact 72 (f := .meth "Walk" "born") (by rfl))⟩
  nm_block := fldOf_ne (fs := flds) (by decide +kernel)
  nm_born := fldOf_ne (fs := flds) (by decide +kernel)
  mk_Program := ⟨He.mkr_ok (c.t.d.fact 73 (f := .mkr "Program") (by rfl))⟩
  mk_Walk := ⟨He.mkr_ok (c.t.d.fact 74 (f := .mkr "Walk") (by rfl))⟩
  x_NoKind := let ⟨q, k, b, t⟩ := He.exc_ok (c.t.d.fact 75 (f := .exc "NoKind") (by rfl)); ⟨q, k, b, t⟩
  ins_Program := ⟨(He.cls_ok (c.t.d.fact 65 (f := .cls "Program") (by rfl))), (He.eqO_ok (exAt c.more 0 (f := fun K => He.eqO (PySem.W.findIn K (.ref (He.ga K "Program")) "__class__") (some (some (.builtin "object.__class__")))) (by rfl))), (He.eqO_ok (exAt c.more 1 (f := fun K => He.eqO (PySem.W.specialIn K (.builtin "object.__class__") "__get__") (some (some (.builtin "getset_descriptor.__get__")))) (by rfl))), (of_decide_eq_true (exAt c.more 2 (f := fun K => decide (PySem.W.takesIn K (.builtin "object.__class__") = some true)) (by rfl))), (of_decide_eq_true (exAt c.more 3 (f := fun K => decide (PySem.W.mroIn K (He.ga K "Program") (.type "object") = some true)) (by rfl)))⟩
  ki_int := (of_decide_eq_true (exAt c.more 4 (f := fun K => decide (PySem.W.kitOne K (.ref (He.ga K "Program")) (.type "int") = some false)) (by rfl)))
  ki_bool := (of_decide_eq_true (exAt c.more 5 (f := fun K => decide (PySem.W.kitOne K (.ref (He.ga K "Program")) (.type "bool") = some false)) (by rfl)))
  ki_tuple := (of_decide_eq_true (exAt c.more 6 (f := fun K => decide (PySem.W.kitOne K (.ref (He.ga K "Program")) (.type "tuple") = some false)) (by rfl)))
  ki_list := (of_decide_eq_true (exAt c.more 7 (f := fun K => decide (PySem.W.kitOne K (.ref (He.ga K "Program")) (.type "list") = some false)) (by rfl)))
  ki_dict := (of_decide_eq_true (exAt c.more 8 (f := fun K => decide (PySem.W.kitOne K (.ref (He.ga K "Program")) (.type "dict") = some false)) (by rfl)))
  ec := ⟨(He.eqO_ok (exAt c.more 11 (f := fun K => He.eqO (PySem.W.findIn K (.ref (He.ga K "NoKind")) "__getattribute__") (some (some (.builtin "BaseException.__getattribute__")))) (by rfl))), (He.eqO_ok (exAt c.more 12 (f := fun K => He.eqO (PySem.W.findIn K (.ref (He.ga K "NoKind")) "__getattr__") (some none)) (by rfl))), (of_decide_eq_true (exAt c.more 13 (f := fun K => decide (PySem.W.subIn K (.ref (He.ga K "NoKind")) (.type "BaseException") = some true)) (by rfl))), (exAt c.more 14 (f := fun K => PySem.W.hasDictIn K (He.ga K "NoKind")) (by rfl)), (He.eqO_ok (exAt c.more 9 (f := fun K => He.eqO (PySem.W.findIn K (.ref (He.ga K "NoKind")) "__class__") (some (some (.builtin "object.__class__")))) (by rfl))), (He.eqO_ok (exAt c.more 1 (f := fun K => He.eqO (PySem.W.specialIn K (.builtin "object.__class__") "__get__") (some (some (.builtin "getset_descriptor.__get__")))) (by rfl))), (of_decide_eq_true (exAt c.more 2 (f := fun K => decide (PySem.W.takesIn K (.builtin "object.__class__") = some true)) (by rfl))), (of_decide_eq_true (exAt c.more 10 (f := fun K => decide (PySem.W.mroIn K (He.ga K "NoKind") (.type "object") = some true)) (by rfl)))⟩
  exm_NoKind := He.exm_ok (c.t.d.fact 76 (f := .exm "NoKind" "NoKind" true) (by rfl))
  k_doors := (of_decide_eq_true (exAt c.more 15 (f := fun K => decide (PySem.W.kitOne K (.ref (He.ga K "NoKind")) (.ref (He.ga K "DoorsError")) = some true)) (by rfl)))
  k_value := (of_decide_eq_true (exAt c.more 16 (f := fun K => decide (PySem.W.kitOne K (.ref (He.ga K "NoKind")) (.type "ValueError") = some true)) (by rfl)))
  k_bad := (of_decide_eq_true (exAt c.more 17 (f := fun K => decide (PySem.W.kitOne K (.ref (He.ga K "NoKind")) (.ref (He.ga K "BadProgram")) = some false)) (by rfl)))
  n_ValueError := He.free_ok X G (c.t.d.fact 77 (f := .free "ValueError") (by rfl))
theorem lz_of (c : He.SaysX fas fns [] tfs exB w h K) {base : Heap} (TB : ∀ p ∈ tfs.map (He.cT K), LamX.TabB base mg p.1 p.2) (a : Addr) (ns : List Int) : Lz mg base (ct K a ns) where
  l_is_procedure := by
    have hm : He.cT K ("is_procedure", none) ∈ tfs.map (He.cT K) := List.mem_map.mpr ⟨_, List.mem_of_getElem? (i := 0) (by rfl), rfl⟩
    refine ⟨(He.cT K ("is_procedure", none)).1, (He.cT K ("is_procedure", none)).2, TB _ hm, List.mem_of_getElem? (i := 0) (by rfl), ?_, fun oc od fd osl lk hc => ?_⟩
    · intro p hp
      have hp2 : p = ((He.cT K ("is_procedure", none)).2, ("is_procedure" : Str) ++ ".<locals>." ++ "<lambda>") ∨ p = ((He.cT K ("Program", some "__init__")).2, ("Program.__init__" : Str) ++ ".<locals>." ++ "<lambda>") := by simpa [ctOf, tabsC] using hp
      rcases hp2 with rfl | rfl
      · exact fun _ => rfl
      · exact fun e => absurd e (of_decide_eq_true (exAt c.more 18 (f := fun K => decide ((He.cT K ("Program", some "__init__")).2 ≠ (He.cT K ("is_procedure", none)).2)) (by rfl)))
    · obtain ⟨c2, e⟩ := He.codeIn_ref hc
      have q := He.codeOf_eq (p := ("is_procedure", none)) lk e
      rw [e, ← q]
      all_goals rfl
  l_Program___init__ := by
    have hm : He.cT K ("Program", some "__init__") ∈ tfs.map (He.cT K) := List.mem_map.mpr ⟨_, List.mem_of_getElem? (i := 1) (by rfl), rfl⟩
    refine ⟨(He.cT K ("Program", some "__init__")).1, (He.cT K ("Program", some "__init__")).2, TB _ hm, List.mem_of_getElem? (i := 1) (by rfl), ?_, fun oc od fd osl lk hc => ?_⟩
    · intro p hp
      have hp2 : p = ((He.cT K ("is_procedure", none)).2, ("is_procedure" : Str) ++ ".<locals>." ++ "<lambda>") ∨ p = ((He.cT K ("Program", some "__init__")).2, ("Program.__init__" : Str) ++ ".<locals>." ++ "<lambda>") := by simpa [ctOf, tabsC] using hp
      rcases hp2 with rfl | rfl
      · exact fun e => absurd e.symm (of_decide_eq_true (exAt c.more 18 (f := fun K => decide ((He.cT K ("Program", some "__init__")).2 ≠ (He.cT K ("is_procedure", none)).2)) (by rfl)))
      · exact fun _ => rfl
    · obtain ⟨c2, e⟩ := He.codeIn_ref hc
      have q := He.codeOf_eq (p := ("Program", some "__init__")) lk e
      rw [e, ← q]
      all_goals rfl
end
abbrev R : PySem.W.OpenRow := PySem.W.OpenLaw.row PySem.Challenge.rw_oncedoors_k01_whole_kinds
abbrev hk : PySem.W.Hook := He.hookX 6 fas fns [] tfs exB
def ob (s : PySem.W.SharedT) : He.AlX := He.obsX 6 fas fns [] tfs exB (HandSHeadRun.getT s)
theorem ob_eq (s : PySem.W.SharedT) : ob s = hk.obs s.abs := He.obsX_eq (HandSHeadRun.getT_eq s)
def loose0 : List Str := ["DoorsError",
  "BadProgram",
  "NoKind",
  "SMALL",
  "MOST_SIGNS",
  "is_integer",
  "is_within",
  "is_pair",
  "is_name",
  "are_names",
  "are_unlike",
  "MOST_KNOTS",
  "MOST_GIVEN",
  "is_kind_there",
  "is_kind",
  "check_kind",
  "counter_of",
  "knots_of",
  "counter",
  "knots",
  "MOST_PROCEDURES",
  "MOST_PARAMS",
  "MOST_IN_BLOCK",
  "MOST_STEPS",
  "MOST_EITHERS",
  "MOST_DEEP",
  "are_params",
  "is_step",
  "is_either",
  "is_block"]
def loose1 : List Str := ["size_of",
  "lay_rows",
  "rows_of",
  "Walk",
  "fault_of",
  "targets_of",
  "can_end",
  "ending_of",
  "led_to",
  "Program",
  "kinds_handed",
  "is_procedure",
  "kind_text_of",
  "kind_text",
  "_law_bag",
  "_law_pick",
  "_law_some",
  "_law_knots",
  "_law_is_int",
  "_law_is",
  "_law_deep",
  "_law_is_kind",
  "_law_changed",
  "_law_kind_word",
  "_law_grown",
  "_law_told"]
def loose : List Str := loose0 ++ loose1
theorem run (w : World) : HandSHeadRun.RunEq R (PySem.W.view R.prog [62]) hk ob 6000 loose w := by
  intro os
  kernel_rfl
/-- what is left: the reading answers true -/
abbrev Lawful : Prop := ∀ ns : List Int, ns.length ≤ 63 → (∀ z ∈ ns, Builtin.Int.intBits z ≤ 1048576) → ∃ S, d_law [.scr ns] [] = .ok (.bl true) S
theorem law_end (hL : Lawful) (w : World) (mg : Str → Option Value) (fa : Addr) (h : Heap) (Y : (hk.says w h)) (G : h.Ns mainGlobals mg) (hmg : mg ("law" : Str) = some (.ref fa)) :
    ∃ K : PySem.W.Frag, K.In h ∧ LamX.LawAtS PySem.Challenge.rw_oncedoors_k01_whole_kinds w K (L2.CX prog w) 28 63 "script" mg fa h := by
  obtain ⟨K, KX, c⟩ := Y
  refine ⟨K, KX, ?_⟩
  have T := tx_of KX G c
  obtain ⟨fd, F⟩ := (T 0 []).d_law
  have e := hmg.symm.trans (T 0 []).g_law
  cases e
  refine ⟨fd, tfs.map (He.cT K), fun vs H Q E => ∃ a ns, spI (ct K a ns) 1 d_law vs H Q E, ?_, ?_, ?_, ?_, ?_, ?_⟩
  · intro p hp
    obtain ⟨q, hq, rfl⟩ := List.mem_map.mp hp
    exact c.empty q hq
  · intro p hp
    obtain ⟨q, hq, rfl⟩ := List.mem_map.mp hp
    exact c.out q hq
  · intro p hp
    obtain ⟨q, hq, rfl⟩ := List.mem_map.mp hp
    exact PySem.W.codeHd_of_K KX (c.hd q hq)
  · have b := FunD.bindsA (ps := ["script"]) F bi_law
    exact fun s v => b s [v] rfl
  · intro H a ns hl hb hT hS
    have hT2 : ∀ p ∈ (ct K a ns).tabs, H p.1 = some (.tbl #[]) := fun p hp => by
      obtain ⟨q, hq, e⟩ : ∃ q ∈ tfs, (He.cT K q).2 = p.1 := by
        have hp2 : p ∈ tabsC K := hp
        unfold tabsC at hp2
        simp only [List.mem_cons, List.not_mem_nil, or_false] at hp2
        first
        | (cases hp2; done)
        | (rcases hp2 with rfl | rfl <;> exact ⟨_, by first | exact List.mem_of_getElem? (i := 0) (by rfl) | exact List.mem_of_getElem? (i := 1) (by rfl) | exact List.mem_of_getElem? (i := 2) (by rfl), rfl⟩)
      rw [← e]
      exact hT _ (List.mem_map.mpr ⟨q, hq, rfl⟩)
    obtain ⟨w0, e0, sm⟩ := sim_start (C := ct K a ns) hT2 hS
    obtain ⟨S, hS2⟩ := hL ns hl hb
    refine ⟨a, ns, w0, [.scr ns], [], e0, sm, .cons .scr .nil, rfl, ?_⟩
    rw [hS2]
    intro w' v l s' r
    cases r
    rfl
  · intro base KB GB TB
    have Fk : ∀ a ns, FnOk prog w K mg base (L2.CX prog w) 28 (He.ga K "law") fd ["script"] (spI (ct K a ns) 1 d_law) := fun a ns =>
      fnok_of (C := ct K a ns) (i := 39) (fun_ofD F) sc_law fun cdv _ _ => body_law (T a ns) (lz_of c TB a ns) cdv
    exact ⟨fun vs H Q E ⟨a, ns, q⟩ => (Fk a ns).len vs H Q E q, fun A outer s H args us vs Q E hr e0 hb r ⟨a, ns, q⟩ => (Fk a ns).run A outer s H args us vs Q E hr e0 hb r q⟩
end K01
open PySem PySem.W PySem.Calls PyProof.Rows
theorem K01.holds_of (hL : K01.Lawful) : PySem.Challenge.rw_oncedoors_k01_whole_kinds.Holds := by
  w_on; o_law
  refine HandSHeadRun.head_any (r := OpenLaw.row PySem.Challenge.rw_oncedoors_k01_whole_kinds) (q := view (OpenLaw.row PySem.Challenge.rw_oncedoors_k01_whole_kinds).prog [62]) (H := K01.hk) (ob := K01.ob) (M := 6000) (loose := K01.loose) (d := HandSHeadRun.topDef (OpenLaw.row PySem.Challenge.rw_oncedoors_k01_whole_kinds).prog 62) (kwd := []) K01.ob_eq
    (by kernel_rfl) (fun s => by kernel_rfl) K01.run (by kernel_rfl) (by kernel_rfl) (by kernel_rfl) (by rfl) (by first | assumption | decide +kernel) (by decide +kernel) ⟨rfl, rfl, rfl, rfl, rfl, by decide +kernel⟩ ?hw ?hc
  case hw => w_witness2
  case hc =>
    refine LamX.walk_ofTsE (l := PySem.Challenge.rw_oncedoors_k01_whole_kinds) (n := 63) (k := 28) (x := "script") (CX := fun w => L2.CX K01.prog w) rfl (by decide) (by kernel_rfl) ⟨rfl, by decide, by decide⟩ ?F (fun _ _ _ _ _ z => ?_)
    · intro w mg fa h Y G hmg0
      have hmg : mg ("law" : PySem.Str) = some (.ref fa) := by
        have e : (HandSHeadRun.topDef (OpenLaw.row PySem.Challenge.rw_oncedoors_k01_whole_kinds).prog 62).name = ("law" : PySem.Str) := by kernel_rfl
        rw [← e]
        exact hmg0
      exact K01.law_end hL w mg fa h Y G hmg
    · obtain ⟨_, _, _, _, _, _, _, _, _, _, _, _, z⟩ := z
      exact z
end

section
set_option Elab.async false
set_option linter.all false
set_option autoImplicit false
set_option maxRecDepth 100000
set_option maxHeartbeats 4000000
/-! the plain law of k01: the bag -/
namespace K01
open PySem L2 OD
/-- the bag at b, its great numbers at g -/
structure Bag (b g : Nat) (S : Sto) : Prop where
  ne : b ≠ g
  at_ : ∃ seed n al, S[b]? = some (.lst [.int seed, .int n, .ref g, al]) ∧ (al = .non ∨ ∃ i, al = .int i)
  gr : ∃ gs : List Int, S[g]? = some (.lst (gs.map U.int))
/-- only the bag is written -/
structure Stp (b g : Nat) (S S' : Sto) : Prop where
  len : S.length ≤ S'.length
  same : ∀ i, i ≠ b → i ≠ g → i < S.length → S'[i]? = S[i]?
theorem Stp.refl {b g : Nat} {S : Sto} : Stp b g S S := ⟨Nat.le_refl _, fun _ _ _ _ => rfl⟩
theorem Stp.trans {b g : Nat} {S S1 S2 : Sto} (a : Stp b g S S1) (c : Stp b g S1 S2) : Stp b g S S2 := ⟨Nat.le_trans a.len c.len, fun i h1 h2 h3 => (c.same i h1 h2 (Nat.lt_of_lt_of_le h3 a.len)).trans (a.same i h1 h2 h3)⟩
theorem Stp.setb {b g : Nat} {S : Sto} {c : Cell} : Stp b g S (S.set b c) := ⟨by simp, fun i h1 h2 h3 => List.getElem?_set_ne (Ne.symm h1)⟩
theorem Stp.setg {b g : Nat} {S : Sto} {c : Cell} : Stp b g S (S.set g c) := ⟨by simp, fun i h1 h2 h3 => List.getElem?_set_ne (Ne.symm h2)⟩
theorem fIsNN_int {i : Int} {S : Sto} : fIsNN (.int i) .non S = some (.bl true, S) := rfl
theorem fIsNN_non {S : Sto} : fIsNN .non .non S = some (.bl false, S) := rfl
theorem ixN1 {n : Nat} : ixN (n + 1 + 1) 1 = some 1 := by
  unfold ixN
  rw [if_pos (by decide), if_pos (by omega)]
  rfl
theorem ixN0 {n : Nat} : ixN (n + 1) 0 = some 0 := by
  unfold ixN
  rw [if_pos (by decide), if_pos (by omega)]
  rfl
theorem pick_ok {b g : Nat} {S : Sto} {many : Int} (B : Bag b g S) (h1 : 0 < many) (h2 : many < 1073741824) :
    ∃ d S', d__law_pick [.ref b, .int many] S = .ok (.int d) S' ∧ 0 ≤ d ∧ d < many ∧ Bag b g S' ∧ Stp b g S S' := by
  obtain ⟨ne, ⟨seed, n, al, hb, hal⟩, ⟨gs, hg⟩⟩ := B
  have lb : b < S.length := (List.getElem?_eq_some_iff.mp hb).1
  have lg : g < S.length := (List.getElem?_eq_some_iff.mp hg).1
  have hgb : ∀ c, (S.set b c)[g]? = some (.lst (gs.map U.int)) := fun c => by rw [List.getElem?_set_ne ne]; exact hg
  have hbb : ∀ c, (S.set b c)[b]? = some c := fun c => List.getElem?_set_self lb
  rcases hal with rfl | ⟨i, rfl⟩
  · have hB : Bag b g (S.set b (.lst [.int seed, .int (n + 1), .ref g, .non])) := ⟨ne, ⟨seed, n + 1, .non, hbb _, .inl rfl⟩, gs, hgb _⟩
    have z0 : (decide ((0 : Int) < ((0 : Nat) : Int))) = false := rfl
    have z1 : ∀ n : Nat, (decide ((0 : Int) < ((n + 1 : Nat) : Int))) = true := fun n => decide_eq_true (by omega)
    have mulM : ∀ (i j : Int) (S : Sto), fMul (.int (i % 2147483647)) (.int j) S = some (.int (i % 2147483647 * j), S) := fun i j S => OD.mul_int (by
      have h1 := Int.emod_nonneg i (show (2147483647 : Int) ≠ 0 by decide)
      have h2 := Int.emod_lt_of_pos i (show (0 : Int) < 2147483647 by decide)
      rw [show isSmall (i % 2147483647) = true by
        unfold isSmall
        rw [decide_eq_true (show -(2 ^ 64) < i % 2147483647 by omega), decide_eq_true (show i % 2147483647 < 2 ^ 64 by omega)]
        rfl]
      rfl)
    cases gs with
    | nil =>
      have key : ∃ z, d__law_pick [.ref b, .int many] S = .ok (.int (z % many)) (S.set b (.lst [.int seed, .int (n + 1), .ref g, .non])) := by
        unfold d__law_pick b__law_pick
        simp only [OD.ev_bind, OD.ev_bindx, OD.ev_st, OD.ev_stx, OD.ev_nox, OD.ev_seq, OD.ev_seqr, OD.ev_seqx, OD.ev_lift, OD.ev_var, OD.ev_var1, OD.ev_k, OD.ev_op, OD.ev_op1, OD.ev_op2, OD.ev_un, OD.ev_un1, OD.ev_nil, OD.ev_cons, OD.ev_cons1, OD.ev_cons2, OD.ev_tup, OD.ev_tup1, OD.ev_lst, OD.ev_lst1, OD.ev_b, OD.ev_bl, OD.ev_b1, OD.ev_new, OD.ev_new1, OD.ev_m, OD.ev_m1, OD.ev_m2, OD.ev_and, OD.ev_andt, OD.ev_andf, OD.ev_or, OD.ev_ort, OD.ev_orf, OD.ev_not, OD.ev_not1, OD.ev_if, OD.ev_ift, OD.ev_iff, OD.ev_asb, OD.ev_asb1, OD.ev_tand, OD.ev_tandt, OD.ev_tandf, OD.ev_tor, OD.ev_tort, OD.ev_torf, OD.ev_tnot, OD.ev_tnot1, OD.ev_tru, OD.ev_tru1, OD.ev_o, OD.ev_is, OD.ev_is1, OD.ev_is2, OD.ev_ch, OD.ev_ch1, OD.ev_ch2, OD.ev_ch3t, OD.ev_ch3f, OD.ev_ch4, OD.ev_sl, OD.ev_sl1, OD.ev_sl2, OD.ev_sl3, OD.ev_on, OD.ev_os, OD.ev_os1, OD.ev_call, OD.ev_call1, OD.ev_asg, OD.ev_asg1, OD.ev_asgt, OD.ev_x, OD.ev_x1, OD.ev_r, OD.ev_r1, OD.ev_rn, OD.ev_skip, OD.ev_mseq, OD.ev_cont, OD.ev_break, OD.ev_ifs, OD.ev_ifst, OD.ev_ifsf, OD.ev_si, OD.ev_si1, OD.ev_si2, OD.ev_si3, OD.ev_si4, OD.ev_aug, OD.ev_aug0, OD.ev_aug1, OD.ev_aug2, OD.ev_fn, OD.ev_fnn, OD.ev_fnr, OD.ev_fnx, OD.ix_tup, OD.ix_lst, OD.ix_str, OD.at0, OD.at1, OD.at2, OD.at3, OD.len_tup, OD.len_scr, OD.len_lst, OD.int_int, OD.add_int, OD.add_tup, OD.sub_int, OD.eq_int, OD.eq_bl, OD.eq_str, OD.lt_int, OD.le_int, OD.gt_int, OD.ge_int, OD.mod_int, OD.div_int, OD.mul_int, OD.ev_wh, OD.ev_whf, OD.ev_wht, OD.ev_wen, OD.ev_wer, OD.ev_mst, OD.ev_mst1, OD.ev_msl, OD.ev_msl1, OD.ev_msl2, OD.ev_mscr, OD.ev_ent, OD.ev_ent1, OD.ev_zip, OD.ev_zip1, OD.ev_zip2, OD.ev_rg, OD.ev_lc, OD.ev_for, OD.ev_ext, OD.ev_ext1, List.getElem?_cons_zero, List.getElem?_cons_succ, List.set_cons_zero, List.set_cons_succ, List.replicate_succ, List.replicate_zero, List.map_cons, List.map_nil, List.length_cons, List.length_nil, List.cons_append, List.nil_append, List.append_nil, Nat.zero_add, Nat.reduceAdd, Nat.reduceSub, Nat.sub_self, isN_non, hb, si_1, si_0, ix_lst (hbb _) at0, ix_lst (hbb _) at1, ix_lst (hbb _) at2, hbb, len_lst (hgb _), List.length_map, mulS (show isSmall 48271 = true from rfl), mulS' (show isSmall 7919 = true from rfl), mod_int (show (0 : Int) < 2147483647 by decide), mod_int (show (0 : Int) < 2147483399 by decide), div_int (show (0 : Int) < 1009 by decide) (by decide), div_int (show (0 : Int) < 2003 by decide) (by decide), div_int (show (0 : Int) < 16 by decide) (by decide), mod_int h1, z0, z1, mulM, ix_lst hb at1, ix_lst hb at2, ix_lst hb at3]
        exact ⟨_, rfl⟩
      obtain ⟨z, hz⟩ := key
      exact ⟨_, _, hz, Int.emod_nonneg _ (by omega), Int.emod_lt_of_pos _ h1, hB, .setb⟩
    | cons x xs =>
      have hg0 : (S.set b (.lst [.int seed, .int (n + 1), .ref g, .non]))[g]? = some (.lst (.int x :: xs.map U.int)) := hgb _
      have lg2 : g < (S.set b (.lst [.int seed, .int (n + 1), .ref g, .non])).length := by rw [List.length_set]; exact lg
      have hgg : ∀ c, ((S.set b (.lst [.int seed, .int (n + 1), .ref g, .non])).set g c)[g]? = some c := fun c => List.getElem?_set_self lg2
      have hgb2 : ∀ c, ((S.set b (.lst [.int seed, .int (n + 1), .ref g, .non])).set g c)[b]? = some (.lst [.int seed, .int (n + 1), .ref g, .non]) := fun c => by rw [List.getElem?_set_ne (Ne.symm ne)]; exact hbb _
      have lg3 : ∀ c, g < ((S.set b (.lst [.int seed, .int (n + 1), .ref g, .non])).set g c).length := fun c => by rw [List.length_set]; exact lg2
      by_cases hz : x / many = 0
      · refine ⟨x % many, ((S.set b (.lst [.int seed, .int (n + 1), .ref g, .non])).set g (.lst (.int (x / many) :: xs.map U.int))).set g (.lst (xs.map U.int)), ?_, Int.emod_nonneg _ (by omega), Int.emod_lt_of_pos _ h1, ⟨ne, ⟨seed, n + 1, .non, ?_, .inl rfl⟩, xs, ?_⟩, (Stp.setb.trans Stp.setg).trans Stp.setg⟩
        · have e0 : (x / many == 0) = true := by rw [hz]; rfl
          unfold d__law_pick b__law_pick
          simp only [OD.ev_bind, OD.ev_bindx, OD.ev_st, OD.ev_stx, OD.ev_nox, OD.ev_seq, OD.ev_seqr, OD.ev_seqx, OD.ev_lift, OD.ev_var, OD.ev_var1, OD.ev_k, OD.ev_op, OD.ev_op1, OD.ev_op2, OD.ev_un, OD.ev_un1, OD.ev_nil, OD.ev_cons, OD.ev_cons1, OD.ev_cons2, OD.ev_tup, OD.ev_tup1, OD.ev_lst, OD.ev_lst1, OD.ev_b, OD.ev_bl, OD.ev_b1, OD.ev_new, OD.ev_new1, OD.ev_m, OD.ev_m1, OD.ev_m2, OD.ev_and, OD.ev_andt, OD.ev_andf, OD.ev_or, OD.ev_ort, OD.ev_orf, OD.ev_not, OD.ev_not1, OD.ev_if, OD.ev_ift, OD.ev_iff, OD.ev_asb, OD.ev_asb1, OD.ev_tand, OD.ev_tandt, OD.ev_tandf, OD.ev_tor, OD.ev_tort, OD.ev_torf, OD.ev_tnot, OD.ev_tnot1, OD.ev_tru, OD.ev_tru1, OD.ev_o, OD.ev_is, OD.ev_is1, OD.ev_is2, OD.ev_ch, OD.ev_ch1, OD.ev_ch2, OD.ev_ch3t, OD.ev_ch3f, OD.ev_ch4, OD.ev_sl, OD.ev_sl1, OD.ev_sl2, OD.ev_sl3, OD.ev_on, OD.ev_os, OD.ev_os1, OD.ev_call, OD.ev_call1, OD.ev_asg, OD.ev_asg1, OD.ev_asgt, OD.ev_x, OD.ev_x1, OD.ev_r, OD.ev_r1, OD.ev_rn, OD.ev_skip, OD.ev_mseq, OD.ev_cont, OD.ev_break, OD.ev_ifs, OD.ev_ifst, OD.ev_ifsf, OD.ev_si, OD.ev_si1, OD.ev_si2, OD.ev_si3, OD.ev_si4, OD.ev_aug, OD.ev_aug0, OD.ev_aug1, OD.ev_aug2, OD.ev_fn, OD.ev_fnn, OD.ev_fnr, OD.ev_fnx, OD.ix_tup, OD.ix_lst, OD.ix_str, OD.at0, OD.at1, OD.at2, OD.at3, OD.len_tup, OD.len_scr, OD.len_lst, OD.int_int, OD.add_int, OD.add_tup, OD.sub_int, OD.eq_int, OD.eq_bl, OD.eq_str, OD.lt_int, OD.le_int, OD.gt_int, OD.ge_int, OD.mod_int, OD.div_int, OD.mul_int, OD.ev_wh, OD.ev_whf, OD.ev_wht, OD.ev_wen, OD.ev_wer, OD.ev_mst, OD.ev_mst1, OD.ev_msl, OD.ev_msl1, OD.ev_msl2, OD.ev_mscr, OD.ev_ent, OD.ev_ent1, OD.ev_zip, OD.ev_zip1, OD.ev_zip2, OD.ev_rg, OD.ev_lc, OD.ev_for, OD.ev_ext, OD.ev_ext1, List.getElem?_cons_zero, List.getElem?_cons_succ, List.set_cons_zero, List.set_cons_succ, List.replicate_succ, List.replicate_zero, List.map_cons, List.map_nil, List.length_cons, List.length_nil, List.cons_append, List.nil_append, List.append_nil, Nat.zero_add, Nat.reduceAdd, Nat.reduceSub, Nat.sub_self, isN_non, hb, si_1, si_0, ix_lst (hbb _) at0, ix_lst (hbb _) at1, ix_lst (hbb _) at2, hbb, len_lst (hgb _), List.length_map, mulS (show isSmall 48271 = true from rfl), mulS' (show isSmall 7919 = true from rfl), mod_int (show (0 : Int) < 2147483647 by decide), mod_int (show (0 : Int) < 2147483399 by decide), div_int (show (0 : Int) < 1009 by decide) (by decide), div_int (show (0 : Int) < 2003 by decide) (by decide), div_int (show (0 : Int) < 16 by decide) (by decide), mod_int h1, z0, z1, mulM, ix_lst hb at1, ix_lst hb at2, ix_lst hb at3, hg0, ix_lst hg0 at0, div_int h1 h2, hgg, ix_lst (hgg _) at0, e0, isTy_lst (hgg _), pop0 (hgg _)]
        · rw [List.getElem?_set_ne (Ne.symm ne)]; exact hgb2 _
        · rw [List.getElem?_set_self (lg3 _)]
      · refine ⟨x % many, ((S.set b (.lst [.int seed, .int (n + 1), .ref g, .non])).set g (.lst (.int (x / many) :: xs.map U.int))), ?_, Int.emod_nonneg _ (by omega), Int.emod_lt_of_pos _ h1, ⟨ne, ⟨seed, n + 1, .non, hgb2 _, .inl rfl⟩, (x / many) :: xs, hgg _⟩, Stp.setb.trans Stp.setg⟩
        have e0 : (x / many == 0) = false := beq_eq_false_iff_ne.mpr hz
        unfold d__law_pick b__law_pick
        simp only [OD.ev_bind, OD.ev_bindx, OD.ev_st, OD.ev_stx, OD.ev_nox, OD.ev_seq, OD.ev_seqr, OD.ev_seqx, OD.ev_lift, OD.ev_var, OD.ev_var1, OD.ev_k, OD.ev_op, OD.ev_op1, OD.ev_op2, OD.ev_un, OD.ev_un1, OD.ev_nil, OD.ev_cons, OD.ev_cons1, OD.ev_cons2, OD.ev_tup, OD.ev_tup1, OD.ev_lst, OD.ev_lst1, OD.ev_b, OD.ev_bl, OD.ev_b1, OD.ev_new, OD.ev_new1, OD.ev_m, OD.ev_m1, OD.ev_m2, OD.ev_and, OD.ev_andt, OD.ev_andf, OD.ev_or, OD.ev_ort, OD.ev_orf, OD.ev_not, OD.ev_not1, OD.ev_if, OD.ev_ift, OD.ev_iff, OD.ev_asb, OD.ev_asb1, OD.ev_tand, OD.ev_tandt, OD.ev_tandf, OD.ev_tor, OD.ev_tort, OD.ev_torf, OD.ev_tnot, OD.ev_tnot1, OD.ev_tru, OD.ev_tru1, OD.ev_o, OD.ev_is, OD.ev_is1, OD.ev_is2, OD.ev_ch, OD.ev_ch1, OD.ev_ch2, OD.ev_ch3t, OD.ev_ch3f, OD.ev_ch4, OD.ev_sl, OD.ev_sl1, OD.ev_sl2, OD.ev_sl3, OD.ev_on, OD.ev_os, OD.ev_os1, OD.ev_call, OD.ev_call1, OD.ev_asg, OD.ev_asg1, OD.ev_asgt, OD.ev_x, OD.ev_x1, OD.ev_r, OD.ev_r1, OD.ev_rn, OD.ev_skip, OD.ev_mseq, OD.ev_cont, OD.ev_break, OD.ev_ifs, OD.ev_ifst, OD.ev_ifsf, OD.ev_si, OD.ev_si1, OD.ev_si2, OD.ev_si3, OD.ev_si4, OD.ev_aug, OD.ev_aug0, OD.ev_aug1, OD.ev_aug2, OD.ev_fn, OD.ev_fnn, OD.ev_fnr, OD.ev_fnx, OD.ix_tup, OD.ix_lst, OD.ix_str, OD.at0, OD.at1, OD.at2, OD.at3, OD.len_tup, OD.len_scr, OD.len_lst, OD.int_int, OD.add_int, OD.add_tup, OD.sub_int, OD.eq_int, OD.eq_bl, OD.eq_str, OD.lt_int, OD.le_int, OD.gt_int, OD.ge_int, OD.mod_int, OD.div_int, OD.mul_int, OD.ev_wh, OD.ev_whf, OD.ev_wht, OD.ev_wen, OD.ev_wer, OD.ev_mst, OD.ev_mst1, OD.ev_msl, OD.ev_msl1, OD.ev_msl2, OD.ev_mscr, OD.ev_ent, OD.ev_ent1, OD.ev_zip, OD.ev_zip1, OD.ev_zip2, OD.ev_rg, OD.ev_lc, OD.ev_for, OD.ev_ext, OD.ev_ext1, List.getElem?_cons_zero, List.getElem?_cons_succ, List.set_cons_zero, List.set_cons_succ, List.replicate_succ, List.replicate_zero, List.map_cons, List.map_nil, List.length_cons, List.length_nil, List.cons_append, List.nil_append, List.append_nil, Nat.zero_add, Nat.reduceAdd, Nat.reduceSub, Nat.sub_self, isN_non, hb, si_1, si_0, ix_lst (hbb _) at0, ix_lst (hbb _) at1, ix_lst (hbb _) at2, hbb, len_lst (hgb _), List.length_map, mulS (show isSmall 48271 = true from rfl), mulS' (show isSmall 7919 = true from rfl), mod_int (show (0 : Int) < 2147483647 by decide), mod_int (show (0 : Int) < 2147483399 by decide), div_int (show (0 : Int) < 1009 by decide) (by decide), div_int (show (0 : Int) < 2003 by decide) (by decide), div_int (show (0 : Int) < 16 by decide) (by decide), mod_int h1, z0, z1, mulM, ix_lst hb at1, ix_lst hb at2, ix_lst hb at3, hg0, ix_lst hg0 at0, div_int h1 h2, hgg, ix_lst (hgg _) at0, e0]
  · refine ⟨i % many, S, ?_, Int.emod_nonneg _ (by omega), Int.emod_lt_of_pos _ h1, ⟨ne, ⟨seed, n, _, hb, .inr ⟨i, rfl⟩⟩, gs, hg⟩, .refl⟩
    unfold d__law_pick b__law_pick
    simp only [OD.ev_bind, OD.ev_bindx, OD.ev_st, OD.ev_stx, OD.ev_nox, OD.ev_seq, OD.ev_seqr, OD.ev_seqx, OD.ev_lift, OD.ev_var, OD.ev_var1, OD.ev_k, OD.ev_op, OD.ev_op1, OD.ev_op2, OD.ev_un, OD.ev_un1, OD.ev_nil, OD.ev_cons, OD.ev_cons1, OD.ev_cons2, OD.ev_tup, OD.ev_tup1, OD.ev_lst, OD.ev_lst1, OD.ev_b, OD.ev_bl, OD.ev_b1, OD.ev_new, OD.ev_new1, OD.ev_m, OD.ev_m1, OD.ev_m2, OD.ev_and, OD.ev_andt, OD.ev_andf, OD.ev_or, OD.ev_ort, OD.ev_orf, OD.ev_not, OD.ev_not1, OD.ev_if, OD.ev_ift, OD.ev_iff, OD.ev_asb, OD.ev_asb1, OD.ev_tand, OD.ev_tandt, OD.ev_tandf, OD.ev_tor, OD.ev_tort, OD.ev_torf, OD.ev_tnot, OD.ev_tnot1, OD.ev_tru, OD.ev_tru1, OD.ev_o, OD.ev_is, OD.ev_is1, OD.ev_is2, OD.ev_ch, OD.ev_ch1, OD.ev_ch2, OD.ev_ch3t, OD.ev_ch3f, OD.ev_ch4, OD.ev_sl, OD.ev_sl1, OD.ev_sl2, OD.ev_sl3, OD.ev_on, OD.ev_os, OD.ev_os1, OD.ev_call, OD.ev_call1, OD.ev_asg, OD.ev_asg1, OD.ev_asgt, OD.ev_x, OD.ev_x1, OD.ev_r, OD.ev_r1, OD.ev_rn, OD.ev_skip, OD.ev_mseq, OD.ev_cont, OD.ev_break, OD.ev_ifs, OD.ev_ifst, OD.ev_ifsf, OD.ev_si, OD.ev_si1, OD.ev_si2, OD.ev_si3, OD.ev_si4, OD.ev_aug, OD.ev_aug0, OD.ev_aug1, OD.ev_aug2, OD.ev_fn, OD.ev_fnn, OD.ev_fnr, OD.ev_fnx, OD.ix_tup, OD.ix_lst, OD.ix_str, OD.at0, OD.at1, OD.at2, OD.at3, OD.len_tup, OD.len_scr, OD.len_lst, OD.int_int, OD.add_int, OD.add_tup, OD.sub_int, OD.eq_int, OD.eq_bl, OD.eq_str, OD.lt_int, OD.le_int, OD.gt_int, OD.ge_int, OD.mod_int, OD.div_int, OD.mul_int, OD.ev_wh, OD.ev_whf, OD.ev_wht, OD.ev_wen, OD.ev_wer, OD.ev_mst, OD.ev_mst1, OD.ev_msl, OD.ev_msl1, OD.ev_msl2, OD.ev_mscr, OD.ev_ent, OD.ev_ent1, OD.ev_zip, OD.ev_zip1, OD.ev_zip2, OD.ev_rg, OD.ev_lc, OD.ev_for, OD.ev_ext, OD.ev_ext1, List.getElem?_cons_zero, List.getElem?_cons_succ, List.set_cons_zero, List.set_cons_succ, List.replicate_succ, List.replicate_zero, List.map_cons, List.map_nil, List.length_cons, List.length_nil, List.cons_append, List.nil_append, List.append_nil, Nat.zero_add, Nat.reduceAdd, Nat.reduceSub, Nat.sub_self, ix_lst hb at3, fIsNN_int, mod_int h1]
end K01
end

section
set_option Elab.async false
set_option linter.all false
set_option autoImplicit false
set_option maxRecDepth 100000
set_option maxHeartbeats 4000000
/-! the plain law of k01: what is a kind -/
namespace K01
open PySem L2 OD
/-- values that the law meets -/
inductive Gd (L : Nat) (S : Sto) : U → Prop
  | non : Gd L S .non
  | bl (b : Bool) : Gd L S (.bl b)
  | int (i : Int) : Gd L S (.int i)
  | str (s : List Nat) : Gd L S (.str s)
  | tup {xs : List U} (hl : xs.length ≤ L) (h : ∀ x, x ∈ xs → Gd L S x) : Gd L S (.tup xs)
  | lst {j : Nat} {xs : List U} (h : S[j]? = some (.lst xs)) : Gd L S (.ref j)
  | dic {j : Nat} {xs : List (Key × U)} (h : S[j]? = some (.dic xs)) : Gd L S (.ref j)
  | ins {j : Nat} {fs : List (Nat × U)} (h : S[j]? = some (.ins 44 fs)) : Gd L S (.ref j)
def tyA : U → Ty → Bool
  | .tup _, .tup => true
  | .int _, .int => true
  | .bl _, .int => true
  | .bl _, .bl => true
  | _, _ => false
theorem isTup {L : Nat} {S : Sto} {u : U} (g : Gd L S u) : isTy1 .tup (ownF 44) u S = some (tyA u .tup) := by
  cases g <;> first | rfl | (simp only [isTy1, tyOf, *]; rfl)
theorem isInt {L : Nat} {S : Sto} {u : U} (g : Gd L S u) : isTy1 .int (ownF 44) u S = some (tyA u .int) := by
  cases g <;> first | rfl | (simp only [isTy1, tyOf, *]; rfl)
theorem isBl {L : Nat} {S : Sto} {u : U} (g : Gd L S u) : isTy1 .bl (ownF 44) u S = some (tyA u .bl) := by
  cases g <;> first | rfl | (simp only [isTy1, tyOf, *]; rfl)
/-- the head of a kind -/
def hdOk : U → Bool
  | .tup [.int i, _] => decide (0 ≤ i) && decide (i ≤ 1)
  | _ => false
def subs : U → Option (List U)
  | .tup [_, .tup xs] => if xs.length ≤ 3 then some xs else none
  | _ => none
def pairB : U → Bool
  | .tup [_, _] => true
  | _ => false
theorem pair_ok {L : Nat} {S : Sto} {u : U} (g : Gd L S u) : d_is_pair [u] S = .ok (.bl (pairB u)) S := by
  unfold d_is_pair b_is_pair
  cases hu : tyA u .tup with
  | false =>
    have e : pairB u = false := by
      cases u <;> first | rfl | cases hu
    simp only [OD.ev_bind, OD.ev_bindx, OD.ev_st, OD.ev_stx, OD.ev_nox, OD.ev_seq, OD.ev_seqr, OD.ev_seqx, OD.ev_lift, OD.ev_var, OD.ev_var1, OD.ev_k, OD.ev_op, OD.ev_op1, OD.ev_op2, OD.ev_un, OD.ev_un1, OD.ev_nil, OD.ev_cons, OD.ev_cons1, OD.ev_cons2, OD.ev_tup, OD.ev_tup1, OD.ev_lst, OD.ev_lst1, OD.ev_b, OD.ev_bl, OD.ev_b1, OD.ev_new, OD.ev_new1, OD.ev_m, OD.ev_m1, OD.ev_m2, OD.ev_and, OD.ev_andt, OD.ev_andf, OD.ev_or, OD.ev_ort, OD.ev_orf, OD.ev_not, OD.ev_not1, OD.ev_if, OD.ev_ift, OD.ev_iff, OD.ev_asb, OD.ev_asb1, OD.ev_tand, OD.ev_tandt, OD.ev_tandf, OD.ev_tor, OD.ev_tort, OD.ev_torf, OD.ev_tnot, OD.ev_tnot1, OD.ev_tru, OD.ev_tru1, OD.ev_o, OD.ev_is, OD.ev_is1, OD.ev_is2, OD.ev_ch, OD.ev_ch1, OD.ev_ch2, OD.ev_ch3t, OD.ev_ch3f, OD.ev_ch4, OD.ev_sl, OD.ev_sl1, OD.ev_sl2, OD.ev_sl3, OD.ev_on, OD.ev_os, OD.ev_os1, OD.ev_call, OD.ev_call1, OD.ev_asg, OD.ev_asg1, OD.ev_asgt, OD.ev_x, OD.ev_x1, OD.ev_r, OD.ev_r1, OD.ev_rn, OD.ev_skip, OD.ev_mseq, OD.ev_cont, OD.ev_break, OD.ev_ifs, OD.ev_ifst, OD.ev_ifsf, OD.ev_si, OD.ev_si1, OD.ev_si2, OD.ev_si3, OD.ev_si4, OD.ev_aug, OD.ev_aug0, OD.ev_aug1, OD.ev_aug2, OD.ev_fn, OD.ev_fnn, OD.ev_fnr, OD.ev_fnx, OD.ix_tup, OD.ix_lst, OD.ix_str, OD.at0, OD.at1, OD.at2, OD.at3, OD.len_tup, OD.len_scr, OD.len_lst, OD.int_int, OD.add_int, OD.add_tup, OD.sub_int, OD.eq_int, OD.eq_bl, OD.eq_str, OD.lt_int, OD.le_int, OD.gt_int, OD.ge_int, OD.mod_int, OD.div_int, OD.mul_int, OD.ev_wh, OD.ev_whf, OD.ev_wht, OD.ev_wen, OD.ev_wer, OD.ev_mst, OD.ev_mst1, OD.ev_msl, OD.ev_msl1, OD.ev_msl2, OD.ev_mscr, OD.ev_ent, OD.ev_ent1, OD.ev_zip, OD.ev_zip1, OD.ev_zip2, OD.ev_rg, OD.ev_lc, OD.ev_for, OD.ev_ext, OD.ev_ext1, List.getElem?_cons_zero, List.getElem?_cons_succ, List.set_cons_zero, List.set_cons_succ, List.replicate_succ, List.replicate_zero, List.map_cons, List.map_nil, List.length_cons, List.length_nil, List.cons_append, List.nil_append, List.append_nil, Nat.zero_add, Nat.reduceAdd, Nat.reduceSub, Nat.sub_self, isTup g, hu, e]
  | true =>
    cases u with
    | tup xs =>
      simp only [OD.ev_bind, OD.ev_bindx, OD.ev_st, OD.ev_stx, OD.ev_nox, OD.ev_seq, OD.ev_seqr, OD.ev_seqx, OD.ev_lift, OD.ev_var, OD.ev_var1, OD.ev_k, OD.ev_op, OD.ev_op1, OD.ev_op2, OD.ev_un, OD.ev_un1, OD.ev_nil, OD.ev_cons, OD.ev_cons1, OD.ev_cons2, OD.ev_tup, OD.ev_tup1, OD.ev_lst, OD.ev_lst1, OD.ev_b, OD.ev_bl, OD.ev_b1, OD.ev_new, OD.ev_new1, OD.ev_m, OD.ev_m1, OD.ev_m2, OD.ev_and, OD.ev_andt, OD.ev_andf, OD.ev_or, OD.ev_ort, OD.ev_orf, OD.ev_not, OD.ev_not1, OD.ev_if, OD.ev_ift, OD.ev_iff, OD.ev_asb, OD.ev_asb1, OD.ev_tand, OD.ev_tandt, OD.ev_tandf, OD.ev_tor, OD.ev_tort, OD.ev_torf, OD.ev_tnot, OD.ev_tnot1, OD.ev_tru, OD.ev_tru1, OD.ev_o, OD.ev_is, OD.ev_is1, OD.ev_is2, OD.ev_ch, OD.ev_ch1, OD.ev_ch2, OD.ev_ch3t, OD.ev_ch3f, OD.ev_ch4, OD.ev_sl, OD.ev_sl1, OD.ev_sl2, OD.ev_sl3, OD.ev_on, OD.ev_os, OD.ev_os1, OD.ev_call, OD.ev_call1, OD.ev_asg, OD.ev_asg1, OD.ev_asgt, OD.ev_x, OD.ev_x1, OD.ev_r, OD.ev_r1, OD.ev_rn, OD.ev_skip, OD.ev_mseq, OD.ev_cont, OD.ev_break, OD.ev_ifs, OD.ev_ifst, OD.ev_ifsf, OD.ev_si, OD.ev_si1, OD.ev_si2, OD.ev_si3, OD.ev_si4, OD.ev_aug, OD.ev_aug0, OD.ev_aug1, OD.ev_aug2, OD.ev_fn, OD.ev_fnn, OD.ev_fnr, OD.ev_fnx, OD.ix_tup, OD.ix_lst, OD.ix_str, OD.at0, OD.at1, OD.at2, OD.at3, OD.len_tup, OD.len_scr, OD.len_lst, OD.int_int, OD.add_int, OD.add_tup, OD.sub_int, OD.eq_int, OD.eq_bl, OD.eq_str, OD.lt_int, OD.le_int, OD.gt_int, OD.ge_int, OD.mod_int, OD.div_int, OD.mul_int, OD.ev_wh, OD.ev_whf, OD.ev_wht, OD.ev_wen, OD.ev_wer, OD.ev_mst, OD.ev_mst1, OD.ev_msl, OD.ev_msl1, OD.ev_msl2, OD.ev_mscr, OD.ev_ent, OD.ev_ent1, OD.ev_zip, OD.ev_zip1, OD.ev_zip2, OD.ev_rg, OD.ev_lc, OD.ev_for, OD.ev_ext, OD.ev_ext1, List.getElem?_cons_zero, List.getElem?_cons_succ, List.set_cons_zero, List.set_cons_succ, List.replicate_succ, List.replicate_zero, List.map_cons, List.map_nil, List.length_cons, List.length_nil, List.cons_append, List.nil_append, List.append_nil, Nat.zero_add, Nat.reduceAdd, Nat.reduceSub, Nat.sub_self, isTup g, hu]
      have e : ((xs.length : Int) == 2) = pairB (.tup xs) := by
        match xs with
        | [] => rfl
        | [_] => rfl
        | [_, _] => rfl
        | _ :: _ :: _ :: r =>
          show _ = false
          refine beq_eq_false_iff_ne.mpr ?_
          simp only [List.length_cons]
          omega
      rw [e]
    | _ => cases hu
def within01 : U → Bool
  | .int i => decide (0 ≤ i) && decide (i ≤ 1)
  | _ => false
theorem integer_ok {L : Nat} {S : Sto} {u : U} (g : Gd L S u) : d_is_integer [u] S = .ok (.bl (tyA u .int && !tyA u .bl)) S := by
  unfold d_is_integer b_is_integer
  cases hu : tyA u .int with
  | false => simp only [OD.ev_bind, OD.ev_bindx, OD.ev_st, OD.ev_stx, OD.ev_nox, OD.ev_seq, OD.ev_seqr, OD.ev_seqx, OD.ev_lift, OD.ev_var, OD.ev_var1, OD.ev_k, OD.ev_op, OD.ev_op1, OD.ev_op2, OD.ev_un, OD.ev_un1, OD.ev_nil, OD.ev_cons, OD.ev_cons1, OD.ev_cons2, OD.ev_tup, OD.ev_tup1, OD.ev_lst, OD.ev_lst1, OD.ev_b, OD.ev_bl, OD.ev_b1, OD.ev_new, OD.ev_new1, OD.ev_m, OD.ev_m1, OD.ev_m2, OD.ev_and, OD.ev_andt, OD.ev_andf, OD.ev_or, OD.ev_ort, OD.ev_orf, OD.ev_not, OD.ev_not1, OD.ev_if, OD.ev_ift, OD.ev_iff, OD.ev_asb, OD.ev_asb1, OD.ev_tand, OD.ev_tandt, OD.ev_tandf, OD.ev_tor, OD.ev_tort, OD.ev_torf, OD.ev_tnot, OD.ev_tnot1, OD.ev_tru, OD.ev_tru1, OD.ev_o, OD.ev_is, OD.ev_is1, OD.ev_is2, OD.ev_ch, OD.ev_ch1, OD.ev_ch2, OD.ev_ch3t, OD.ev_ch3f, OD.ev_ch4, OD.ev_sl, OD.ev_sl1, OD.ev_sl2, OD.ev_sl3, OD.ev_on, OD.ev_os, OD.ev_os1, OD.ev_call, OD.ev_call1, OD.ev_asg, OD.ev_asg1, OD.ev_asgt, OD.ev_x, OD.ev_x1, OD.ev_r, OD.ev_r1, OD.ev_rn, OD.ev_skip, OD.ev_mseq, OD.ev_cont, OD.ev_break, OD.ev_ifs, OD.ev_ifst, OD.ev_ifsf, OD.ev_si, OD.ev_si1, OD.ev_si2, OD.ev_si3, OD.ev_si4, OD.ev_aug, OD.ev_aug0, OD.ev_aug1, OD.ev_aug2, OD.ev_fn, OD.ev_fnn, OD.ev_fnr, OD.ev_fnx, OD.ix_tup, OD.ix_lst, OD.ix_str, OD.at0, OD.at1, OD.at2, OD.at3, OD.len_tup, OD.len_scr, OD.len_lst, OD.int_int, OD.add_int, OD.add_tup, OD.sub_int, OD.eq_int, OD.eq_bl, OD.eq_str, OD.lt_int, OD.le_int, OD.gt_int, OD.ge_int, OD.mod_int, OD.div_int, OD.mul_int, OD.ev_wh, OD.ev_whf, OD.ev_wht, OD.ev_wen, OD.ev_wer, OD.ev_mst, OD.ev_mst1, OD.ev_msl, OD.ev_msl1, OD.ev_msl2, OD.ev_mscr, OD.ev_ent, OD.ev_ent1, OD.ev_zip, OD.ev_zip1, OD.ev_zip2, OD.ev_rg, OD.ev_lc, OD.ev_for, OD.ev_ext, OD.ev_ext1, List.getElem?_cons_zero, List.getElem?_cons_succ, List.set_cons_zero, List.set_cons_succ, List.replicate_succ, List.replicate_zero, List.map_cons, List.map_nil, List.length_cons, List.length_nil, List.cons_append, List.nil_append, List.append_nil, Nat.zero_add, Nat.reduceAdd, Nat.reduceSub, Nat.sub_self, isInt g, hu, Bool.false_and]
  | true => simp only [OD.ev_bind, OD.ev_bindx, OD.ev_st, OD.ev_stx, OD.ev_nox, OD.ev_seq, OD.ev_seqr, OD.ev_seqx, OD.ev_lift, OD.ev_var, OD.ev_var1, OD.ev_k, OD.ev_op, OD.ev_op1, OD.ev_op2, OD.ev_un, OD.ev_un1, OD.ev_nil, OD.ev_cons, OD.ev_cons1, OD.ev_cons2, OD.ev_tup, OD.ev_tup1, OD.ev_lst, OD.ev_lst1, OD.ev_b, OD.ev_bl, OD.ev_b1, OD.ev_new, OD.ev_new1, OD.ev_m, OD.ev_m1, OD.ev_m2, OD.ev_and, OD.ev_andt, OD.ev_andf, OD.ev_or, OD.ev_ort, OD.ev_orf, OD.ev_not, OD.ev_not1, OD.ev_if, OD.ev_ift, OD.ev_iff, OD.ev_asb, OD.ev_asb1, OD.ev_tand, OD.ev_tandt, OD.ev_tandf, OD.ev_tor, OD.ev_tort, OD.ev_torf, OD.ev_tnot, OD.ev_tnot1, OD.ev_tru, OD.ev_tru1, OD.ev_o, OD.ev_is, OD.ev_is1, OD.ev_is2, OD.ev_ch, OD.ev_ch1, OD.ev_ch2, OD.ev_ch3t, OD.ev_ch3f, OD.ev_ch4, OD.ev_sl, OD.ev_sl1, OD.ev_sl2, OD.ev_sl3, OD.ev_on, OD.ev_os, OD.ev_os1, OD.ev_call, OD.ev_call1, OD.ev_asg, OD.ev_asg1, OD.ev_asgt, OD.ev_x, OD.ev_x1, OD.ev_r, OD.ev_r1, OD.ev_rn, OD.ev_skip, OD.ev_mseq, OD.ev_cont, OD.ev_break, OD.ev_ifs, OD.ev_ifst, OD.ev_ifsf, OD.ev_si, OD.ev_si1, OD.ev_si2, OD.ev_si3, OD.ev_si4, OD.ev_aug, OD.ev_aug0, OD.ev_aug1, OD.ev_aug2, OD.ev_fn, OD.ev_fnn, OD.ev_fnr, OD.ev_fnx, OD.ix_tup, OD.ix_lst, OD.ix_str, OD.at0, OD.at1, OD.at2, OD.at3, OD.len_tup, OD.len_scr, OD.len_lst, OD.int_int, OD.add_int, OD.add_tup, OD.sub_int, OD.eq_int, OD.eq_bl, OD.eq_str, OD.lt_int, OD.le_int, OD.gt_int, OD.ge_int, OD.mod_int, OD.div_int, OD.mul_int, OD.ev_wh, OD.ev_whf, OD.ev_wht, OD.ev_wen, OD.ev_wer, OD.ev_mst, OD.ev_mst1, OD.ev_msl, OD.ev_msl1, OD.ev_msl2, OD.ev_mscr, OD.ev_ent, OD.ev_ent1, OD.ev_zip, OD.ev_zip1, OD.ev_zip2, OD.ev_rg, OD.ev_lc, OD.ev_for, OD.ev_ext, OD.ev_ext1, List.getElem?_cons_zero, List.getElem?_cons_succ, List.set_cons_zero, List.set_cons_succ, List.replicate_succ, List.replicate_zero, List.map_cons, List.map_nil, List.length_cons, List.length_nil, List.cons_append, List.nil_append, List.append_nil, Nat.zero_add, Nat.reduceAdd, Nat.reduceSub, Nat.sub_self, isInt g, isBl g, hu, Bool.true_and]
theorem within_ok {L : Nat} {S : Sto} {u : U} (g : Gd L S u) : d_is_within [u, .int 0, .int 1] S = .ok (.bl (within01 u)) S := by
  unfold d_is_within b_is_within
  cases u with
  | int i =>
    cases h0 : decide (0 ≤ i) with
    | false => simp only [OD.ev_bind, OD.ev_bindx, OD.ev_st, OD.ev_stx, OD.ev_nox, OD.ev_seq, OD.ev_seqr, OD.ev_seqx, OD.ev_lift, OD.ev_var, OD.ev_var1, OD.ev_k, OD.ev_op, OD.ev_op1, OD.ev_op2, OD.ev_un, OD.ev_un1, OD.ev_nil, OD.ev_cons, OD.ev_cons1, OD.ev_cons2, OD.ev_tup, OD.ev_tup1, OD.ev_lst, OD.ev_lst1, OD.ev_b, OD.ev_bl, OD.ev_b1, OD.ev_new, OD.ev_new1, OD.ev_m, OD.ev_m1, OD.ev_m2, OD.ev_and, OD.ev_andt, OD.ev_andf, OD.ev_or, OD.ev_ort, OD.ev_orf, OD.ev_not, OD.ev_not1, OD.ev_if, OD.ev_ift, OD.ev_iff, OD.ev_asb, OD.ev_asb1, OD.ev_tand, OD.ev_tandt, OD.ev_tandf, OD.ev_tor, OD.ev_tort, OD.ev_torf, OD.ev_tnot, OD.ev_tnot1, OD.ev_tru, OD.ev_tru1, OD.ev_o, OD.ev_is, OD.ev_is1, OD.ev_is2, OD.ev_ch, OD.ev_ch1, OD.ev_ch2, OD.ev_ch3t, OD.ev_ch3f, OD.ev_ch4, OD.ev_sl, OD.ev_sl1, OD.ev_sl2, OD.ev_sl3, OD.ev_on, OD.ev_os, OD.ev_os1, OD.ev_call, OD.ev_call1, OD.ev_asg, OD.ev_asg1, OD.ev_asgt, OD.ev_x, OD.ev_x1, OD.ev_r, OD.ev_r1, OD.ev_rn, OD.ev_skip, OD.ev_mseq, OD.ev_cont, OD.ev_break, OD.ev_ifs, OD.ev_ifst, OD.ev_ifsf, OD.ev_si, OD.ev_si1, OD.ev_si2, OD.ev_si3, OD.ev_si4, OD.ev_aug, OD.ev_aug0, OD.ev_aug1, OD.ev_aug2, OD.ev_fn, OD.ev_fnn, OD.ev_fnr, OD.ev_fnx, OD.ix_tup, OD.ix_lst, OD.ix_str, OD.at0, OD.at1, OD.at2, OD.at3, OD.len_tup, OD.len_scr, OD.len_lst, OD.int_int, OD.add_int, OD.add_tup, OD.sub_int, OD.eq_int, OD.eq_bl, OD.eq_str, OD.lt_int, OD.le_int, OD.gt_int, OD.ge_int, OD.mod_int, OD.div_int, OD.mul_int, OD.ev_wh, OD.ev_whf, OD.ev_wht, OD.ev_wen, OD.ev_wer, OD.ev_mst, OD.ev_mst1, OD.ev_msl, OD.ev_msl1, OD.ev_msl2, OD.ev_mscr, OD.ev_ent, OD.ev_ent1, OD.ev_zip, OD.ev_zip1, OD.ev_zip2, OD.ev_rg, OD.ev_lc, OD.ev_for, OD.ev_ext, OD.ev_ext1, List.getElem?_cons_zero, List.getElem?_cons_succ, List.set_cons_zero, List.set_cons_succ, List.replicate_succ, List.replicate_zero, List.map_cons, List.map_nil, List.length_cons, List.length_nil, List.cons_append, List.nil_append, List.append_nil, Nat.zero_add, Nat.reduceAdd, Nat.reduceSub, Nat.sub_self, integer_ok g, tyA, Bool.true_and, Bool.not_false, within01, h0, Bool.false_and]
    | true => simp only [OD.ev_bind, OD.ev_bindx, OD.ev_st, OD.ev_stx, OD.ev_nox, OD.ev_seq, OD.ev_seqr, OD.ev_seqx, OD.ev_lift, OD.ev_var, OD.ev_var1, OD.ev_k, OD.ev_op, OD.ev_op1, OD.ev_op2, OD.ev_un, OD.ev_un1, OD.ev_nil, OD.ev_cons, OD.ev_cons1, OD.ev_cons2, OD.ev_tup, OD.ev_tup1, OD.ev_lst, OD.ev_lst1, OD.ev_b, OD.ev_bl, OD.ev_b1, OD.ev_new, OD.ev_new1, OD.ev_m, OD.ev_m1, OD.ev_m2, OD.ev_and, OD.ev_andt, OD.ev_andf, OD.ev_or, OD.ev_ort, OD.ev_orf, OD.ev_not, OD.ev_not1, OD.ev_if, OD.ev_ift, OD.ev_iff, OD.ev_asb, OD.ev_asb1, OD.ev_tand, OD.ev_tandt, OD.ev_tandf, OD.ev_tor, OD.ev_tort, OD.ev_torf, OD.ev_tnot, OD.ev_tnot1, OD.ev_tru, OD.ev_tru1, OD.ev_o, OD.ev_is, OD.ev_is1, OD.ev_is2, OD.ev_ch, OD.ev_ch1, OD.ev_ch2, OD.ev_ch3t, OD.ev_ch3f, OD.ev_ch4, OD.ev_sl, OD.ev_sl1, OD.ev_sl2, OD.ev_sl3, OD.ev_on, OD.ev_os, OD.ev_os1, OD.ev_call, OD.ev_call1, OD.ev_asg, OD.ev_asg1, OD.ev_asgt, OD.ev_x, OD.ev_x1, OD.ev_r, OD.ev_r1, OD.ev_rn, OD.ev_skip, OD.ev_mseq, OD.ev_cont, OD.ev_break, OD.ev_ifs, OD.ev_ifst, OD.ev_ifsf, OD.ev_si, OD.ev_si1, OD.ev_si2, OD.ev_si3, OD.ev_si4, OD.ev_aug, OD.ev_aug0, OD.ev_aug1, OD.ev_aug2, OD.ev_fn, OD.ev_fnn, OD.ev_fnr, OD.ev_fnx, OD.ix_tup, OD.ix_lst, OD.ix_str, OD.at0, OD.at1, OD.at2, OD.at3, OD.len_tup, OD.len_scr, OD.len_lst, OD.int_int, OD.add_int, OD.add_tup, OD.sub_int, OD.eq_int, OD.eq_bl, OD.eq_str, OD.lt_int, OD.le_int, OD.gt_int, OD.ge_int, OD.mod_int, OD.div_int, OD.mul_int, OD.ev_wh, OD.ev_whf, OD.ev_wht, OD.ev_wen, OD.ev_wer, OD.ev_mst, OD.ev_mst1, OD.ev_msl, OD.ev_msl1, OD.ev_msl2, OD.ev_mscr, OD.ev_ent, OD.ev_ent1, OD.ev_zip, OD.ev_zip1, OD.ev_zip2, OD.ev_rg, OD.ev_lc, OD.ev_for, OD.ev_ext, OD.ev_ext1, List.getElem?_cons_zero, List.getElem?_cons_succ, List.set_cons_zero, List.set_cons_succ, List.replicate_succ, List.replicate_zero, List.map_cons, List.map_nil, List.length_cons, List.length_nil, List.cons_append, List.nil_append, List.append_nil, Nat.zero_add, Nat.reduceAdd, Nat.reduceSub, Nat.sub_self, integer_ok g, tyA, Bool.true_and, Bool.not_false, within01, h0]
  | _ => simp only [OD.ev_bind, OD.ev_bindx, OD.ev_st, OD.ev_stx, OD.ev_nox, OD.ev_seq, OD.ev_seqr, OD.ev_seqx, OD.ev_lift, OD.ev_var, OD.ev_var1, OD.ev_k, OD.ev_op, OD.ev_op1, OD.ev_op2, OD.ev_un, OD.ev_un1, OD.ev_nil, OD.ev_cons, OD.ev_cons1, OD.ev_cons2, OD.ev_tup, OD.ev_tup1, OD.ev_lst, OD.ev_lst1, OD.ev_b, OD.ev_bl, OD.ev_b1, OD.ev_new, OD.ev_new1, OD.ev_m, OD.ev_m1, OD.ev_m2, OD.ev_and, OD.ev_andt, OD.ev_andf, OD.ev_or, OD.ev_ort, OD.ev_orf, OD.ev_not, OD.ev_not1, OD.ev_if, OD.ev_ift, OD.ev_iff, OD.ev_asb, OD.ev_asb1, OD.ev_tand, OD.ev_tandt, OD.ev_tandf, OD.ev_tor, OD.ev_tort, OD.ev_torf, OD.ev_tnot, OD.ev_tnot1, OD.ev_tru, OD.ev_tru1, OD.ev_o, OD.ev_is, OD.ev_is1, OD.ev_is2, OD.ev_ch, OD.ev_ch1, OD.ev_ch2, OD.ev_ch3t, OD.ev_ch3f, OD.ev_ch4, OD.ev_sl, OD.ev_sl1, OD.ev_sl2, OD.ev_sl3, OD.ev_on, OD.ev_os, OD.ev_os1, OD.ev_call, OD.ev_call1, OD.ev_asg, OD.ev_asg1, OD.ev_asgt, OD.ev_x, OD.ev_x1, OD.ev_r, OD.ev_r1, OD.ev_rn, OD.ev_skip, OD.ev_mseq, OD.ev_cont, OD.ev_break, OD.ev_ifs, OD.ev_ifst, OD.ev_ifsf, OD.ev_si, OD.ev_si1, OD.ev_si2, OD.ev_si3, OD.ev_si4, OD.ev_aug, OD.ev_aug0, OD.ev_aug1, OD.ev_aug2, OD.ev_fn, OD.ev_fnn, OD.ev_fnr, OD.ev_fnx, OD.ix_tup, OD.ix_lst, OD.ix_str, OD.at0, OD.at1, OD.at2, OD.at3, OD.len_tup, OD.len_scr, OD.len_lst, OD.int_int, OD.add_int, OD.add_tup, OD.sub_int, OD.eq_int, OD.eq_bl, OD.eq_str, OD.lt_int, OD.le_int, OD.gt_int, OD.ge_int, OD.mod_int, OD.div_int, OD.mul_int, OD.ev_wh, OD.ev_whf, OD.ev_wht, OD.ev_wen, OD.ev_wer, OD.ev_mst, OD.ev_mst1, OD.ev_msl, OD.ev_msl1, OD.ev_msl2, OD.ev_mscr, OD.ev_ent, OD.ev_ent1, OD.ev_zip, OD.ev_zip1, OD.ev_zip2, OD.ev_rg, OD.ev_lc, OD.ev_for, OD.ev_ext, OD.ev_ext1, List.getElem?_cons_zero, List.getElem?_cons_succ, List.set_cons_zero, List.set_cons_succ, List.replicate_succ, List.replicate_zero, List.map_cons, List.map_nil, List.length_cons, List.length_nil, List.cons_append, List.nil_append, List.append_nil, Nat.zero_add, Nat.reduceAdd, Nat.reduceSub, Nat.sub_self, integer_ok g, tyA, Bool.false_and, within01, Bool.true_and, Bool.not_true]
theorem lawint_ok {L : Nat} {S : Sto} {u : U} (g : Gd L S u) : d__law_is_int [u, .int 0, .int 1] S = .ok (.bl (within01 u)) S := by
  unfold d__law_is_int b__law_is_int
  cases u with
  | int i =>
    cases h0 : decide (0 ≤ i) with
    | false => simp only [OD.ev_bind, OD.ev_bindx, OD.ev_st, OD.ev_stx, OD.ev_nox, OD.ev_seq, OD.ev_seqr, OD.ev_seqx, OD.ev_lift, OD.ev_var, OD.ev_var1, OD.ev_k, OD.ev_op, OD.ev_op1, OD.ev_op2, OD.ev_un, OD.ev_un1, OD.ev_nil, OD.ev_cons, OD.ev_cons1, OD.ev_cons2, OD.ev_tup, OD.ev_tup1, OD.ev_lst, OD.ev_lst1, OD.ev_b, OD.ev_bl, OD.ev_b1, OD.ev_new, OD.ev_new1, OD.ev_m, OD.ev_m1, OD.ev_m2, OD.ev_and, OD.ev_andt, OD.ev_andf, OD.ev_or, OD.ev_ort, OD.ev_orf, OD.ev_not, OD.ev_not1, OD.ev_if, OD.ev_ift, OD.ev_iff, OD.ev_asb, OD.ev_asb1, OD.ev_tand, OD.ev_tandt, OD.ev_tandf, OD.ev_tor, OD.ev_tort, OD.ev_torf, OD.ev_tnot, OD.ev_tnot1, OD.ev_tru, OD.ev_tru1, OD.ev_o, OD.ev_is, OD.ev_is1, OD.ev_is2, OD.ev_ch, OD.ev_ch1, OD.ev_ch2, OD.ev_ch3t, OD.ev_ch3f, OD.ev_ch4, OD.ev_sl, OD.ev_sl1, OD.ev_sl2, OD.ev_sl3, OD.ev_on, OD.ev_os, OD.ev_os1, OD.ev_call, OD.ev_call1, OD.ev_asg, OD.ev_asg1, OD.ev_asgt, OD.ev_x, OD.ev_x1, OD.ev_r, OD.ev_r1, OD.ev_rn, OD.ev_skip, OD.ev_mseq, OD.ev_cont, OD.ev_break, OD.ev_ifs, OD.ev_ifst, OD.ev_ifsf, OD.ev_si, OD.ev_si1, OD.ev_si2, OD.ev_si3, OD.ev_si4, OD.ev_aug, OD.ev_aug0, OD.ev_aug1, OD.ev_aug2, OD.ev_fn, OD.ev_fnn, OD.ev_fnr, OD.ev_fnx, OD.ix_tup, OD.ix_lst, OD.ix_str, OD.at0, OD.at1, OD.at2, OD.at3, OD.len_tup, OD.len_scr, OD.len_lst, OD.int_int, OD.add_int, OD.add_tup, OD.sub_int, OD.eq_int, OD.eq_bl, OD.eq_str, OD.lt_int, OD.le_int, OD.gt_int, OD.ge_int, OD.mod_int, OD.div_int, OD.mul_int, OD.ev_wh, OD.ev_whf, OD.ev_wht, OD.ev_wen, OD.ev_wer, OD.ev_mst, OD.ev_mst1, OD.ev_msl, OD.ev_msl1, OD.ev_msl2, OD.ev_mscr, OD.ev_ent, OD.ev_ent1, OD.ev_zip, OD.ev_zip1, OD.ev_zip2, OD.ev_rg, OD.ev_lc, OD.ev_for, OD.ev_ext, OD.ev_ext1, List.getElem?_cons_zero, List.getElem?_cons_succ, List.set_cons_zero, List.set_cons_succ, List.replicate_succ, List.replicate_zero, List.map_cons, List.map_nil, List.length_cons, List.length_nil, List.cons_append, List.nil_append, List.append_nil, Nat.zero_add, Nat.reduceAdd, Nat.reduceSub, Nat.sub_self, isInt g, isBl g, tyA, Bool.not_false, within01, h0, Bool.false_and]
    | true => simp only [OD.ev_bind, OD.ev_bindx, OD.ev_st, OD.ev_stx, OD.ev_nox, OD.ev_seq, OD.ev_seqr, OD.ev_seqx, OD.ev_lift, OD.ev_var, OD.ev_var1, OD.ev_k, OD.ev_op, OD.ev_op1, OD.ev_op2, OD.ev_un, OD.ev_un1, OD.ev_nil, OD.ev_cons, OD.ev_cons1, OD.ev_cons2, OD.ev_tup, OD.ev_tup1, OD.ev_lst, OD.ev_lst1, OD.ev_b, OD.ev_bl, OD.ev_b1, OD.ev_new, OD.ev_new1, OD.ev_m, OD.ev_m1, OD.ev_m2, OD.ev_and, OD.ev_andt, OD.ev_andf, OD.ev_or, OD.ev_ort, OD.ev_orf, OD.ev_not, OD.ev_not1, OD.ev_if, OD.ev_ift, OD.ev_iff, OD.ev_asb, OD.ev_asb1, OD.ev_tand, OD.ev_tandt, OD.ev_tandf, OD.ev_tor, OD.ev_tort, OD.ev_torf, OD.ev_tnot, OD.ev_tnot1, OD.ev_tru, OD.ev_tru1, OD.ev_o, OD.ev_is, OD.ev_is1, OD.ev_is2, OD.ev_ch, OD.ev_ch1, OD.ev_ch2, OD.ev_ch3t, OD.ev_ch3f, OD.ev_ch4, OD.ev_sl, OD.ev_sl1, OD.ev_sl2, OD.ev_sl3, OD.ev_on, OD.ev_os, OD.ev_os1, OD.ev_call, OD.ev_call1, OD.ev_asg, OD.ev_asg1, OD.ev_asgt, OD.ev_x, OD.ev_x1, OD.ev_r, OD.ev_r1, OD.ev_rn, OD.ev_skip, OD.ev_mseq, OD.ev_cont, OD.ev_break, OD.ev_ifs, OD.ev_ifst, OD.ev_ifsf, OD.ev_si, OD.ev_si1, OD.ev_si2, OD.ev_si3, OD.ev_si4, OD.ev_aug, OD.ev_aug0, OD.ev_aug1, OD.ev_aug2, OD.ev_fn, OD.ev_fnn, OD.ev_fnr, OD.ev_fnx, OD.ix_tup, OD.ix_lst, OD.ix_str, OD.at0, OD.at1, OD.at2, OD.at3, OD.len_tup, OD.len_scr, OD.len_lst, OD.int_int, OD.add_int, OD.add_tup, OD.sub_int, OD.eq_int, OD.eq_bl, OD.eq_str, OD.lt_int, OD.le_int, OD.gt_int, OD.ge_int, OD.mod_int, OD.div_int, OD.mul_int, OD.ev_wh, OD.ev_whf, OD.ev_wht, OD.ev_wen, OD.ev_wer, OD.ev_mst, OD.ev_mst1, OD.ev_msl, OD.ev_msl1, OD.ev_msl2, OD.ev_mscr, OD.ev_ent, OD.ev_ent1, OD.ev_zip, OD.ev_zip1, OD.ev_zip2, OD.ev_rg, OD.ev_lc, OD.ev_for, OD.ev_ext, OD.ev_ext1, List.getElem?_cons_zero, List.getElem?_cons_succ, List.set_cons_zero, List.set_cons_succ, List.replicate_succ, List.replicate_zero, List.map_cons, List.map_nil, List.length_cons, List.length_nil, List.cons_append, List.nil_append, List.append_nil, Nat.zero_add, Nat.reduceAdd, Nat.reduceSub, Nat.sub_self, isInt g, isBl g, tyA, Bool.true_and, Bool.not_false, within01, h0]
  | _ => simp only [OD.ev_bind, OD.ev_bindx, OD.ev_st, OD.ev_stx, OD.ev_nox, OD.ev_seq, OD.ev_seqr, OD.ev_seqx, OD.ev_lift, OD.ev_var, OD.ev_var1, OD.ev_k, OD.ev_op, OD.ev_op1, OD.ev_op2, OD.ev_un, OD.ev_un1, OD.ev_nil, OD.ev_cons, OD.ev_cons1, OD.ev_cons2, OD.ev_tup, OD.ev_tup1, OD.ev_lst, OD.ev_lst1, OD.ev_b, OD.ev_bl, OD.ev_b1, OD.ev_new, OD.ev_new1, OD.ev_m, OD.ev_m1, OD.ev_m2, OD.ev_and, OD.ev_andt, OD.ev_andf, OD.ev_or, OD.ev_ort, OD.ev_orf, OD.ev_not, OD.ev_not1, OD.ev_if, OD.ev_ift, OD.ev_iff, OD.ev_asb, OD.ev_asb1, OD.ev_tand, OD.ev_tandt, OD.ev_tandf, OD.ev_tor, OD.ev_tort, OD.ev_torf, OD.ev_tnot, OD.ev_tnot1, OD.ev_tru, OD.ev_tru1, OD.ev_o, OD.ev_is, OD.ev_is1, OD.ev_is2, OD.ev_ch, OD.ev_ch1, OD.ev_ch2, OD.ev_ch3t, OD.ev_ch3f, OD.ev_ch4, OD.ev_sl, OD.ev_sl1, OD.ev_sl2, OD.ev_sl3, OD.ev_on, OD.ev_os, OD.ev_os1, OD.ev_call, OD.ev_call1, OD.ev_asg, OD.ev_asg1, OD.ev_asgt, OD.ev_x, OD.ev_x1, OD.ev_r, OD.ev_r1, OD.ev_rn, OD.ev_skip, OD.ev_mseq, OD.ev_cont, OD.ev_break, OD.ev_ifs, OD.ev_ifst, OD.ev_ifsf, OD.ev_si, OD.ev_si1, OD.ev_si2, OD.ev_si3, OD.ev_si4, OD.ev_aug, OD.ev_aug0, OD.ev_aug1, OD.ev_aug2, OD.ev_fn, OD.ev_fnn, OD.ev_fnr, OD.ev_fnx, OD.ix_tup, OD.ix_lst, OD.ix_str, OD.at0, OD.at1, OD.at2, OD.at3, OD.len_tup, OD.len_scr, OD.len_lst, OD.int_int, OD.add_int, OD.add_tup, OD.sub_int, OD.eq_int, OD.eq_bl, OD.eq_str, OD.lt_int, OD.le_int, OD.gt_int, OD.ge_int, OD.mod_int, OD.div_int, OD.mul_int, OD.ev_wh, OD.ev_whf, OD.ev_wht, OD.ev_wen, OD.ev_wer, OD.ev_mst, OD.ev_mst1, OD.ev_msl, OD.ev_msl1, OD.ev_msl2, OD.ev_mscr, OD.ev_ent, OD.ev_ent1, OD.ev_zip, OD.ev_zip1, OD.ev_zip2, OD.ev_rg, OD.ev_lc, OD.ev_for, OD.ev_ext, OD.ev_ext1, List.getElem?_cons_zero, List.getElem?_cons_succ, List.set_cons_zero, List.set_cons_succ, List.replicate_succ, List.replicate_zero, List.map_cons, List.map_nil, List.length_cons, List.length_nil, List.cons_append, List.nil_append, List.append_nil, Nat.zero_add, Nat.reduceAdd, Nat.reduceSub, Nat.sub_self, isInt g, isBl g, tyA, within01, Bool.not_true]
theorem pop_last {S : Sto} {j : Nat} {ws : List U} {h : U} (e : S[j]? = some (.lst (ws ++ [h]))) : fPop (.ref j) [] S = some (h, S.set j (.lst ws)) := by
  simp only [fPop, e, List.length_append, List.length_cons, List.length_nil, Nat.zero_add, Nat.add_sub_cancel, List.getElem?_append_right (Nat.le_refl _), Nat.sub_self, List.getElem?_cons_zero, List.dropLast_concat]
theorem ext_tup {S : Sto} {j : Nat} {ws xs : List U} (e : S[j]? = some (.lst ws)) (h : ws.length + xs.length ≤ sizeLine) : fExt (.ref j) [.tup xs] S = some (.non, S.set j (.lst (ws ++ xs))) := by
  simp only [fExt, e, if_pos h]
theorem addI {S : Sto} {i j : Int} : fAddI (.int i) (.int j) S = some (.int (i + j), S) := rfl
def ikGo : Nat → List U → Int → Bool
  | 0, _, _ => false
  | n + 1, ws, c => match ws.getLast? with
    | none => true
    | some h => if 6 < c + 1 then false else if hdOk h then match subs h with
      | some xs => ikGo n (ws.dropLast ++ xs) (c + 1)
      | none => false else false
theorem gd_set {L : Nat} {S : Sto} {j : Nat} {ws vs : List U} (e : S[j]? = some (.lst ws)) {u : U} (g : Gd L S u) : Gd L (S.set j (.lst vs)) u := by
  have hj : j < S.length := (List.getElem?_eq_some_iff.mp e).1
  induction g with
  | non => exact .non
  | bl b => exact .bl b
  | int i => exact .int i
  | str s => exact .str s
  | tup hl _ ih => exact .tup hl ih
  | @lst k xs h =>
    by_cases q : k = j
    · subst q; exact .lst (List.getElem?_set_self hj)
    · exact .lst (by rw [List.getElem?_set_ne (Ne.symm q)]; exact h)
  | @dic k xs h =>
    by_cases q : k = j
    · subst q; rw [e] at h; cases h
    · exact .dic (by rw [List.getElem?_set_ne (Ne.symm q)]; exact h)
  | @ins k xs h =>
    by_cases q : k = j
    · subst q; rw [e] at h; cases h
    · exact .ins (by rw [List.getElem?_set_ne (Ne.symm q)]; exact h)
theorem list_last {ws : List U} : ws = [] ∨ ∃ w h, ws = w ++ [h] := by
  rcases List.eq_nil_or_concat ws with e | ⟨w, h, e⟩
  · exact .inl e
  · exact .inr ⟨w, h, by simpa using e⟩
abbrev tKT : EM Bool := (asB (mOp fGt (mB fLen (mCons (mVar 1) mNil)) (mK (.int 0))))
abbrev bKT : SM := (mSeq (mAsg (.nm 3) (mM 0 fPop (mVar 1) mNil))
  (mSeq (mAug 2 fAddI (mK (.int 1)))
  (mSeq (mIfS (tmOr (asB (mOp fGt (mVar 2) (mK (.int 6)))) (tmOr (tmNot (mTru (mCall 1 d_is_pair (mCons (mVar 3) mNil)))) (tmNot (mTru (mCall 3 d_is_within (mCons (mOp fIx (mVar 3) (mK (.int 0))) (mCons (mK (.int 0)) (mCons (mK (.int 1)) mNil)))))))) (mRet (mK (.bl false))) mSkip)
  (mSeq (mIfS (tmOr (tmNot (mTru (mIsT (isTy1 .tup (ownF 44)) (mOp fIx (mVar 3) (mK (.int 1)))))) (asB (mOp fGt (mB fLen (mCons (mOp fIx (mVar 3) (mK (.int 1))) mNil)) (mK (.int 3))))) (mRet (mK (.bl false))) mSkip)
  (mExpr (mM 0 fExt (mVar 1) (mCons (mOp fIx (mVar 3) (mK (.int 1))) mNil)))))))
theorem tru_bl {S : Sto} {k : Bool} : truU (.bl k) S = some k := rfl
theorem z_len0 : (decide ((0 : Int) < ((0 : Nat) : Int))) = false := rfl
theorem z_lens {w : List U} {h : U} : (decide ((0 : Int) < (((w ++ [h]).length : Nat) : Int))) = true := decide_eq_true (by simp only [List.length_append, List.length_cons, List.length_nil]; omega)
theorem set_same {S : Sto} {j : Nat} {c : Cell} (e : S[j]? = some c) : S.set j c = S := by
  have hj : j < S.length := (List.getElem?_eq_some_iff.mp e).1
  refine List.ext_getElem? fun i => ?_
  by_cases q : j = i
  · subst q; rw [List.getElem?_set_self hj, e]
  · rw [List.getElem?_set_ne q]
theorem ik_nil {n : Nat} {c : Int} : ikGo (n + 1) [] c = true := rfl
theorem ik_cons {n : Nat} {w : List U} {h : U} {c : Int} : ikGo (n + 1) (w ++ [h]) c = if 6 < c + 1 then false else if hdOk h then match subs h with
      | some xs => ikGo n (w ++ xs) (c + 1)
      | none => false else false := by
  simp only [ikGo, List.getLast?_concat, List.dropLast_concat]
theorem gd_tup {L : Nat} {S : Sto} {xs : List U} (g : Gd L S (.tup xs)) : ∀ x, x ∈ xs → Gd L S x := by
  cases g with
  | tup _ h => exact h
theorem len_gt3 {xs : List U} (h : xs.length ≤ 3) : (decide ((3 : Int) < ((xs.length : Nat) : Int))) = false := decide_eq_false (by omega)
theorem len_gt3' {xs : List U} (h : ¬ xs.length ≤ 3) : (decide ((3 : Int) < ((xs.length : Nat) : Int))) = true := decide_eq_true (by omega)
theorem kt_loop {u : U} {j : Nat} : ∀ (n : Nat) (ws : List U) (c : Int) (h3 : Option U) (S : Sto) (L m : Nat), S[j]? = some (.lst ws) → (∀ w, w ∈ ws → Gd L S w) → ws.length + 3 * n ≤ 1000 → 7 - c < n → c ≤ 6 → n ≤ m →
    (ikGo n ws c = true → ∃ c' h' vs, whGo tKT bKT m [some u, some (.ref j), some (.int c), h3] S = .nx [some u, some (.ref j), some (.int c'), h'] (S.set j (.lst vs))) ∧
    (ikGo n ws c = false → ∃ vs, whGo tKT bKT m [some u, some (.ref j), some (.int c), h3] S = .rt (.bl false) (S.set j (.lst vs)))
  | 0, ws, c, h3, S, L, m, e, g, hl, hc, hc6, hm => by omega
  | n + 1, ws, c, h3, S, L, 0, e, g, hl, hc, hc6, hm => absurd hm (by omega)
  | n + 1, ws, c, h3, S, L, m + 1, e, g, hl, hc, hc7, hm => by
    have hj : j < S.length := (List.getElem?_eq_some_iff.mp e).1
    rcases list_last (ws := ws) with rfl | ⟨w, h, rfl⟩
    · refine ⟨fun _ => ⟨c, h3, [], ?_⟩, fun q => by rw [ik_nil] at q; cases q⟩
      simp only [OD.ev_bind, OD.ev_bindx, OD.ev_st, OD.ev_stx, OD.ev_nox, OD.ev_seq, OD.ev_seqr, OD.ev_seqx, OD.ev_lift, OD.ev_var, OD.ev_var1, OD.ev_k, OD.ev_op, OD.ev_op1, OD.ev_op2, OD.ev_un, OD.ev_un1, OD.ev_nil, OD.ev_cons, OD.ev_cons1, OD.ev_cons2, OD.ev_tup, OD.ev_tup1, OD.ev_lst, OD.ev_lst1, OD.ev_b, OD.ev_bl, OD.ev_b1, OD.ev_new, OD.ev_new1, OD.ev_m, OD.ev_m1, OD.ev_m2, OD.ev_and, OD.ev_andt, OD.ev_andf, OD.ev_or, OD.ev_ort, OD.ev_orf, OD.ev_not, OD.ev_not1, OD.ev_if, OD.ev_ift, OD.ev_iff, OD.ev_asb, OD.ev_asb1, OD.ev_tand, OD.ev_tandt, OD.ev_tandf, OD.ev_tor, OD.ev_tort, OD.ev_torf, OD.ev_tnot, OD.ev_tnot1, OD.ev_tru, OD.ev_tru1, OD.ev_o, OD.ev_is, OD.ev_is1, OD.ev_is2, OD.ev_ch, OD.ev_ch1, OD.ev_ch2, OD.ev_ch3t, OD.ev_ch3f, OD.ev_ch4, OD.ev_sl, OD.ev_sl1, OD.ev_sl2, OD.ev_sl3, OD.ev_on, OD.ev_os, OD.ev_os1, OD.ev_call, OD.ev_call1, OD.ev_asg, OD.ev_asg1, OD.ev_asgt, OD.ev_x, OD.ev_x1, OD.ev_r, OD.ev_r1, OD.ev_rn, OD.ev_skip, OD.ev_mseq, OD.ev_cont, OD.ev_break, OD.ev_ifs, OD.ev_ifst, OD.ev_ifsf, OD.ev_si, OD.ev_si1, OD.ev_si2, OD.ev_si3, OD.ev_si4, OD.ev_aug, OD.ev_aug0, OD.ev_aug1, OD.ev_aug2, OD.ev_fn, OD.ev_fnn, OD.ev_fnr, OD.ev_fnx, OD.ix_tup, OD.ix_lst, OD.ix_str, OD.at0, OD.at1, OD.at2, OD.at3, OD.len_tup, OD.len_scr, OD.len_lst, OD.int_int, OD.add_int, OD.add_tup, OD.sub_int, OD.eq_int, OD.eq_bl, OD.eq_str, OD.lt_int, OD.le_int, OD.gt_int, OD.ge_int, OD.mod_int, OD.div_int, OD.mul_int, OD.ev_wh, OD.ev_whf, OD.ev_wht, OD.ev_wen, OD.ev_wer, OD.ev_mst, OD.ev_mst1, OD.ev_msl, OD.ev_msl1, OD.ev_msl2, OD.ev_mscr, OD.ev_ent, OD.ev_ent1, OD.ev_zip, OD.ev_zip1, OD.ev_zip2, OD.ev_rg, OD.ev_lc, OD.ev_for, OD.ev_ext, OD.ev_ext1, List.getElem?_cons_zero, List.getElem?_cons_succ, List.set_cons_zero, List.set_cons_succ, List.replicate_succ, List.replicate_zero, List.map_cons, List.map_nil, List.length_cons, List.length_nil, List.cons_append, List.nil_append, List.append_nil, Nat.zero_add, Nat.reduceAdd, Nat.reduceSub, Nat.sub_self, len_lst e, z_len0, set_same e]
    · have gh : Gd L (S.set j (.lst w)) h := gd_set e (g h (by simp))
      have e1 : (S.set j (.lst w))[j]? = some (.lst w) := List.getElem?_set_self hj
      have hl2 : w.length + 1 + 3 * (n + 1) ≤ 1000 := by simpa using hl
      rw [ik_cons]
      by_cases hc6 : 6 < c + 1
      · rw [if_pos hc6]
        refine ⟨fun q => (nomatch q), fun _ => ⟨w, ?_⟩⟩
        simp only [OD.ev_bind, OD.ev_bindx, OD.ev_st, OD.ev_stx, OD.ev_nox, OD.ev_seq, OD.ev_seqr, OD.ev_seqx, OD.ev_lift, OD.ev_var, OD.ev_var1, OD.ev_k, OD.ev_op, OD.ev_op1, OD.ev_op2, OD.ev_un, OD.ev_un1, OD.ev_nil, OD.ev_cons, OD.ev_cons1, OD.ev_cons2, OD.ev_tup, OD.ev_tup1, OD.ev_lst, OD.ev_lst1, OD.ev_b, OD.ev_bl, OD.ev_b1, OD.ev_new, OD.ev_new1, OD.ev_m, OD.ev_m1, OD.ev_m2, OD.ev_and, OD.ev_andt, OD.ev_andf, OD.ev_or, OD.ev_ort, OD.ev_orf, OD.ev_not, OD.ev_not1, OD.ev_if, OD.ev_ift, OD.ev_iff, OD.ev_asb, OD.ev_asb1, OD.ev_tand, OD.ev_tandt, OD.ev_tandf, OD.ev_tor, OD.ev_tort, OD.ev_torf, OD.ev_tnot, OD.ev_tnot1, OD.ev_tru, OD.ev_tru1, OD.ev_o, OD.ev_is, OD.ev_is1, OD.ev_is2, OD.ev_ch, OD.ev_ch1, OD.ev_ch2, OD.ev_ch3t, OD.ev_ch3f, OD.ev_ch4, OD.ev_sl, OD.ev_sl1, OD.ev_sl2, OD.ev_sl3, OD.ev_on, OD.ev_os, OD.ev_os1, OD.ev_call, OD.ev_call1, OD.ev_asg, OD.ev_asg1, OD.ev_asgt, OD.ev_x, OD.ev_x1, OD.ev_r, OD.ev_r1, OD.ev_rn, OD.ev_skip, OD.ev_mseq, OD.ev_cont, OD.ev_break, OD.ev_ifs, OD.ev_ifst, OD.ev_ifsf, OD.ev_si, OD.ev_si1, OD.ev_si2, OD.ev_si3, OD.ev_si4, OD.ev_aug, OD.ev_aug0, OD.ev_aug1, OD.ev_aug2, OD.ev_fn, OD.ev_fnn, OD.ev_fnr, OD.ev_fnx, OD.ix_tup, OD.ix_lst, OD.ix_str, OD.at0, OD.at1, OD.at2, OD.at3, OD.len_tup, OD.len_scr, OD.len_lst, OD.int_int, OD.add_int, OD.add_tup, OD.sub_int, OD.eq_int, OD.eq_bl, OD.eq_str, OD.lt_int, OD.le_int, OD.gt_int, OD.ge_int, OD.mod_int, OD.div_int, OD.mul_int, OD.ev_wh, OD.ev_whf, OD.ev_wht, OD.ev_wen, OD.ev_wer, OD.ev_mst, OD.ev_mst1, OD.ev_msl, OD.ev_msl1, OD.ev_msl2, OD.ev_mscr, OD.ev_ent, OD.ev_ent1, OD.ev_zip, OD.ev_zip1, OD.ev_zip2, OD.ev_rg, OD.ev_lc, OD.ev_for, OD.ev_ext, OD.ev_ext1, List.getElem?_cons_zero, List.getElem?_cons_succ, List.set_cons_zero, List.set_cons_succ, List.replicate_succ, List.replicate_zero, List.map_cons, List.map_nil, List.length_cons, List.length_nil, List.cons_append, List.nil_append, List.append_nil, Nat.zero_add, Nat.reduceAdd, Nat.reduceSub, Nat.sub_self, len_lst e, z_lens, isTy_lst e, pop_last e, addI, decide_eq_true hc6]
      · rw [if_neg hc6]
        have hc6' := decide_eq_false hc6
        cases hp : pairB h with
        | false =>
          have hh : hdOk h = false := by
            unfold pairB at hp
            unfold hdOk
            split at hp <;> first | (cases hp; done) | (split <;> simp_all)
          rw [hh]
          refine ⟨fun q => (nomatch q), fun _ => ⟨w, ?_⟩⟩
          simp only [OD.ev_bind, OD.ev_bindx, OD.ev_st, OD.ev_stx, OD.ev_nox, OD.ev_seq, OD.ev_seqr, OD.ev_seqx, OD.ev_lift, OD.ev_var, OD.ev_var1, OD.ev_k, OD.ev_op, OD.ev_op1, OD.ev_op2, OD.ev_un, OD.ev_un1, OD.ev_nil, OD.ev_cons, OD.ev_cons1, OD.ev_cons2, OD.ev_tup, OD.ev_tup1, OD.ev_lst, OD.ev_lst1, OD.ev_b, OD.ev_bl, OD.ev_b1, OD.ev_new, OD.ev_new1, OD.ev_m, OD.ev_m1, OD.ev_m2, OD.ev_and, OD.ev_andt, OD.ev_andf, OD.ev_or, OD.ev_ort, OD.ev_orf, OD.ev_not, OD.ev_not1, OD.ev_if, OD.ev_ift, OD.ev_iff, OD.ev_asb, OD.ev_asb1, OD.ev_tand, OD.ev_tandt, OD.ev_tandf, OD.ev_tor, OD.ev_tort, OD.ev_torf, OD.ev_tnot, OD.ev_tnot1, OD.ev_tru, OD.ev_tru1, OD.ev_o, OD.ev_is, OD.ev_is1, OD.ev_is2, OD.ev_ch, OD.ev_ch1, OD.ev_ch2, OD.ev_ch3t, OD.ev_ch3f, OD.ev_ch4, OD.ev_sl, OD.ev_sl1, OD.ev_sl2, OD.ev_sl3, OD.ev_on, OD.ev_os, OD.ev_os1, OD.ev_call, OD.ev_call1, OD.ev_asg, OD.ev_asg1, OD.ev_asgt, OD.ev_x, OD.ev_x1, OD.ev_r, OD.ev_r1, OD.ev_rn, OD.ev_skip, OD.ev_mseq, OD.ev_cont, OD.ev_break, OD.ev_ifs, OD.ev_ifst, OD.ev_ifsf, OD.ev_si, OD.ev_si1, OD.ev_si2, OD.ev_si3, OD.ev_si4, OD.ev_aug, OD.ev_aug0, OD.ev_aug1, OD.ev_aug2, OD.ev_fn, OD.ev_fnn, OD.ev_fnr, OD.ev_fnx, OD.ix_tup, OD.ix_lst, OD.ix_str, OD.at0, OD.at1, OD.at2, OD.at3, OD.len_tup, OD.len_scr, OD.len_lst, OD.int_int, OD.add_int, OD.add_tup, OD.sub_int, OD.eq_int, OD.eq_bl, OD.eq_str, OD.lt_int, OD.le_int, OD.gt_int, OD.ge_int, OD.mod_int, OD.div_int, OD.mul_int, OD.ev_wh, OD.ev_whf, OD.ev_wht, OD.ev_wen, OD.ev_wer, OD.ev_mst, OD.ev_mst1, OD.ev_msl, OD.ev_msl1, OD.ev_msl2, OD.ev_mscr, OD.ev_ent, OD.ev_ent1, OD.ev_zip, OD.ev_zip1, OD.ev_zip2, OD.ev_rg, OD.ev_lc, OD.ev_for, OD.ev_ext, OD.ev_ext1, List.getElem?_cons_zero, List.getElem?_cons_succ, List.set_cons_zero, List.set_cons_succ, List.replicate_succ, List.replicate_zero, List.map_cons, List.map_nil, List.length_cons, List.length_nil, List.cons_append, List.nil_append, List.append_nil, Nat.zero_add, Nat.reduceAdd, Nat.reduceSub, Nat.sub_self, len_lst e, z_lens, isTy_lst e, pop_last e, addI, hc6', pair_ok gh, hp, tru_bl, Bool.not_false]
        | true =>
          obtain ⟨a, b, rfl⟩ : ∃ a b, h = .tup [a, b] := by
            unfold pairB at hp
            split at hp
            · exact ⟨_, _, rfl⟩
            · cases hp
          have ga : Gd L (S.set j (.lst w)) a := gd_tup gh a (by simp)
          have gb : Gd L (S.set j (.lst w)) b := gd_tup gh b (by simp)
          have hh : hdOk (.tup [a, b]) = within01 a := by cases a <;> rfl
          rw [hh]
          cases hw : within01 a with
          | false =>
            refine ⟨fun q => (nomatch q), fun _ => ⟨w, ?_⟩⟩
            simp only [OD.ev_bind, OD.ev_bindx, OD.ev_st, OD.ev_stx, OD.ev_nox, OD.ev_seq, OD.ev_seqr, OD.ev_seqx, OD.ev_lift, OD.ev_var, OD.ev_var1, OD.ev_k, OD.ev_op, OD.ev_op1, OD.ev_op2, OD.ev_un, OD.ev_un1, OD.ev_nil, OD.ev_cons, OD.ev_cons1, OD.ev_cons2, OD.ev_tup, OD.ev_tup1, OD.ev_lst, OD.ev_lst1, OD.ev_b, OD.ev_bl, OD.ev_b1, OD.ev_new, OD.ev_new1, OD.ev_m, OD.ev_m1, OD.ev_m2, OD.ev_and, OD.ev_andt, OD.ev_andf, OD.ev_or, OD.ev_ort, OD.ev_orf, OD.ev_not, OD.ev_not1, OD.ev_if, OD.ev_ift, OD.ev_iff, OD.ev_asb, OD.ev_asb1, OD.ev_tand, OD.ev_tandt, OD.ev_tandf, OD.ev_tor, OD.ev_tort, OD.ev_torf, OD.ev_tnot, OD.ev_tnot1, OD.ev_tru, OD.ev_tru1, OD.ev_o, OD.ev_is, OD.ev_is1, OD.ev_is2, OD.ev_ch, OD.ev_ch1, OD.ev_ch2, OD.ev_ch3t, OD.ev_ch3f, OD.ev_ch4, OD.ev_sl, OD.ev_sl1, OD.ev_sl2, OD.ev_sl3, OD.ev_on, OD.ev_os, OD.ev_os1, OD.ev_call, OD.ev_call1, OD.ev_asg, OD.ev_asg1, OD.ev_asgt, OD.ev_x, OD.ev_x1, OD.ev_r, OD.ev_r1, OD.ev_rn, OD.ev_skip, OD.ev_mseq, OD.ev_cont, OD.ev_break, OD.ev_ifs, OD.ev_ifst, OD.ev_ifsf, OD.ev_si, OD.ev_si1, OD.ev_si2, OD.ev_si3, OD.ev_si4, OD.ev_aug, OD.ev_aug0, OD.ev_aug1, OD.ev_aug2, OD.ev_fn, OD.ev_fnn, OD.ev_fnr, OD.ev_fnx, OD.ix_tup, OD.ix_lst, OD.ix_str, OD.at0, OD.at1, OD.at2, OD.at3, OD.len_tup, OD.len_scr, OD.len_lst, OD.int_int, OD.add_int, OD.add_tup, OD.sub_int, OD.eq_int, OD.eq_bl, OD.eq_str, OD.lt_int, OD.le_int, OD.gt_int, OD.ge_int, OD.mod_int, OD.div_int, OD.mul_int, OD.ev_wh, OD.ev_whf, OD.ev_wht, OD.ev_wen, OD.ev_wer, OD.ev_mst, OD.ev_mst1, OD.ev_msl, OD.ev_msl1, OD.ev_msl2, OD.ev_mscr, OD.ev_ent, OD.ev_ent1, OD.ev_zip, OD.ev_zip1, OD.ev_zip2, OD.ev_rg, OD.ev_lc, OD.ev_for, OD.ev_ext, OD.ev_ext1, List.getElem?_cons_zero, List.getElem?_cons_succ, List.set_cons_zero, List.set_cons_succ, List.replicate_succ, List.replicate_zero, List.map_cons, List.map_nil, List.length_cons, List.length_nil, List.cons_append, List.nil_append, List.append_nil, Nat.zero_add, Nat.reduceAdd, Nat.reduceSub, Nat.sub_self, len_lst e, z_lens, isTy_lst e, pop_last e, addI, hc6', pair_ok gh, hp, tru_bl, Bool.not_false, Bool.not_true, OD.ix_tup at0, within_ok ga, hw]
          | true =>
            rw [if_pos rfl]
            cases b with
            | tup xs =>
              by_cases hx : xs.length ≤ 3
              · have hs : subs (.tup [a, .tup xs]) = some xs := by unfold subs; simp only [if_pos hx]
                rw [hs]
                have hz : w.length + xs.length ≤ sizeLine := by
                  have : (1000 : Nat) ≤ sizeLine := by decide
                  omega
                have e2 : ((S.set j (.lst w)).set j (.lst (w ++ xs)))[j]? = some (.lst (w ++ xs)) := List.getElem?_set_self (by rw [List.length_set]; exact hj)
                have g2 : ∀ x, x ∈ w ++ xs → Gd L ((S.set j (.lst w)).set j (.lst (w ++ xs))) x := fun x hx => by
                  refine gd_set e1 ?_
                  rcases List.mem_append.mp hx with q | q
                  · exact gd_set e (g x (by simp [q]))
                  · exact gd_tup gb x q
                have R := kt_loop (u := u) n (w ++ xs) (c + 1) (some (.tup [a, .tup xs])) _ L m e2 g2 (by rw [List.length_append]; omega) (by omega) (by omega) (by omega)
                have step : whGo tKT bKT (m + 1) [some u, some (.ref j), some (.int c), h3] S = whGo tKT bKT m [some u, some (.ref j), some (.int (c + 1)), some (.tup [a, .tup xs])] ((S.set j (.lst w)).set j (.lst (w ++ xs))) := by
                  simp only [OD.ev_bind, OD.ev_bindx, OD.ev_st, OD.ev_stx, OD.ev_nox, OD.ev_seq, OD.ev_seqr, OD.ev_seqx, OD.ev_lift, OD.ev_var, OD.ev_var1, OD.ev_k, OD.ev_op, OD.ev_op1, OD.ev_op2, OD.ev_un, OD.ev_un1, OD.ev_nil, OD.ev_cons, OD.ev_cons1, OD.ev_cons2, OD.ev_tup, OD.ev_tup1, OD.ev_lst, OD.ev_lst1, OD.ev_b, OD.ev_bl, OD.ev_b1, OD.ev_new, OD.ev_new1, OD.ev_m, OD.ev_m1, OD.ev_m2, OD.ev_and, OD.ev_andt, OD.ev_andf, OD.ev_or, OD.ev_ort, OD.ev_orf, OD.ev_not, OD.ev_not1, OD.ev_if, OD.ev_ift, OD.ev_iff, OD.ev_asb, OD.ev_asb1, OD.ev_tand, OD.ev_tandt, OD.ev_tandf, OD.ev_tor, OD.ev_tort, OD.ev_torf, OD.ev_tnot, OD.ev_tnot1, OD.ev_tru, OD.ev_tru1, OD.ev_o, OD.ev_is, OD.ev_is1, OD.ev_is2, OD.ev_ch, OD.ev_ch1, OD.ev_ch2, OD.ev_ch3t, OD.ev_ch3f, OD.ev_ch4, OD.ev_sl, OD.ev_sl1, OD.ev_sl2, OD.ev_sl3, OD.ev_on, OD.ev_os, OD.ev_os1, OD.ev_call, OD.ev_call1, OD.ev_asg, OD.ev_asg1, OD.ev_asgt, OD.ev_x, OD.ev_x1, OD.ev_r, OD.ev_r1, OD.ev_rn, OD.ev_skip, OD.ev_mseq, OD.ev_cont, OD.ev_break, OD.ev_ifs, OD.ev_ifst, OD.ev_ifsf, OD.ev_si, OD.ev_si1, OD.ev_si2, OD.ev_si3, OD.ev_si4, OD.ev_aug, OD.ev_aug0, OD.ev_aug1, OD.ev_aug2, OD.ev_fn, OD.ev_fnn, OD.ev_fnr, OD.ev_fnx, OD.ix_tup, OD.ix_lst, OD.ix_str, OD.at0, OD.at1, OD.at2, OD.at3, OD.len_tup, OD.len_scr, OD.len_lst, OD.int_int, OD.add_int, OD.add_tup, OD.sub_int, OD.eq_int, OD.eq_bl, OD.eq_str, OD.lt_int, OD.le_int, OD.gt_int, OD.ge_int, OD.mod_int, OD.div_int, OD.mul_int, OD.ev_wh, OD.ev_whf, OD.ev_wht, OD.ev_wen, OD.ev_wer, OD.ev_mst, OD.ev_mst1, OD.ev_msl, OD.ev_msl1, OD.ev_msl2, OD.ev_mscr, OD.ev_ent, OD.ev_ent1, OD.ev_zip, OD.ev_zip1, OD.ev_zip2, OD.ev_rg, OD.ev_lc, OD.ev_for, OD.ev_ext, OD.ev_ext1, List.getElem?_cons_zero, List.getElem?_cons_succ, List.set_cons_zero, List.set_cons_succ, List.replicate_succ, List.replicate_zero, List.map_cons, List.map_nil, List.length_cons, List.length_nil, List.cons_append, List.nil_append, List.append_nil, Nat.zero_add, Nat.reduceAdd, Nat.reduceSub, Nat.sub_self, len_lst e, z_lens, isTy_lst e, pop_last e, addI, hc6', pair_ok gh, hp, tru_bl, Bool.not_false, Bool.not_true, OD.ix_tup at0, OD.ix_tup at1, within_ok ga, hw, isTup gb, tyA, len_gt3 hx, isTy_lst e1, ext_tup e1 hz]
                rw [step]
                refine ⟨fun q => ?_, fun q => ?_⟩
                · obtain ⟨c', h', vs, q2⟩ := R.1 q
                  exact ⟨c', h', vs, by rw [q2, List.set_set, List.set_set]⟩
                · obtain ⟨vs, q2⟩ := R.2 q
                  exact ⟨vs, by rw [q2, List.set_set, List.set_set]⟩
              · have hs : subs (.tup [a, .tup xs]) = none := by unfold subs; simp only [if_neg hx]
                rw [hs]
                refine ⟨fun q => (nomatch q), fun _ => ⟨w, ?_⟩⟩
                simp only [OD.ev_bind, OD.ev_bindx, OD.ev_st, OD.ev_stx, OD.ev_nox, OD.ev_seq, OD.ev_seqr, OD.ev_seqx, OD.ev_lift, OD.ev_var, OD.ev_var1, OD.ev_k, OD.ev_op, OD.ev_op1, OD.ev_op2, OD.ev_un, OD.ev_un1, OD.ev_nil, OD.ev_cons, OD.ev_cons1, OD.ev_cons2, OD.ev_tup, OD.ev_tup1, OD.ev_lst, OD.ev_lst1, OD.ev_b, OD.ev_bl, OD.ev_b1, OD.ev_new, OD.ev_new1, OD.ev_m, OD.ev_m1, OD.ev_m2, OD.ev_and, OD.ev_andt, OD.ev_andf, OD.ev_or, OD.ev_ort, OD.ev_orf, OD.ev_not, OD.ev_not1, OD.ev_if, OD.ev_ift, OD.ev_iff, OD.ev_asb, OD.ev_asb1, OD.ev_tand, OD.ev_tandt, OD.ev_tandf, OD.ev_tor, OD.ev_tort, OD.ev_torf, OD.ev_tnot, OD.ev_tnot1, OD.ev_tru, OD.ev_tru1, OD.ev_o, OD.ev_is, OD.ev_is1, OD.ev_is2, OD.ev_ch, OD.ev_ch1, OD.ev_ch2, OD.ev_ch3t, OD.ev_ch3f, OD.ev_ch4, OD.ev_sl, OD.ev_sl1, OD.ev_sl2, OD.ev_sl3, OD.ev_on, OD.ev_os, OD.ev_os1, OD.ev_call, OD.ev_call1, OD.ev_asg, OD.ev_asg1, OD.ev_asgt, OD.ev_x, OD.ev_x1, OD.ev_r, OD.ev_r1, OD.ev_rn, OD.ev_skip, OD.ev_mseq, OD.ev_cont, OD.ev_break, OD.ev_ifs, OD.ev_ifst, OD.ev_ifsf, OD.ev_si, OD.ev_si1, OD.ev_si2, OD.ev_si3, OD.ev_si4, OD.ev_aug, OD.ev_aug0, OD.ev_aug1, OD.ev_aug2, OD.ev_fn, OD.ev_fnn, OD.ev_fnr, OD.ev_fnx, OD.ix_tup, OD.ix_lst, OD.ix_str, OD.at0, OD.at1, OD.at2, OD.at3, OD.len_tup, OD.len_scr, OD.len_lst, OD.int_int, OD.add_int, OD.add_tup, OD.sub_int, OD.eq_int, OD.eq_bl, OD.eq_str, OD.lt_int, OD.le_int, OD.gt_int, OD.ge_int, OD.mod_int, OD.div_int, OD.mul_int, OD.ev_wh, OD.ev_whf, OD.ev_wht, OD.ev_wen, OD.ev_wer, OD.ev_mst, OD.ev_mst1, OD.ev_msl, OD.ev_msl1, OD.ev_msl2, OD.ev_mscr, OD.ev_ent, OD.ev_ent1, OD.ev_zip, OD.ev_zip1, OD.ev_zip2, OD.ev_rg, OD.ev_lc, OD.ev_for, OD.ev_ext, OD.ev_ext1, List.getElem?_cons_zero, List.getElem?_cons_succ, List.set_cons_zero, List.set_cons_succ, List.replicate_succ, List.replicate_zero, List.map_cons, List.map_nil, List.length_cons, List.length_nil, List.cons_append, List.nil_append, List.append_nil, Nat.zero_add, Nat.reduceAdd, Nat.reduceSub, Nat.sub_self, len_lst e, z_lens, isTy_lst e, pop_last e, addI, hc6', pair_ok gh, hp, tru_bl, Bool.not_false, Bool.not_true, OD.ix_tup at0, OD.ix_tup at1, within_ok ga, hw, isTup gb, tyA, len_gt3' hx]
            | _ =>
              refine ⟨fun q => (nomatch q), fun _ => ⟨w, ?_⟩⟩
              simp only [OD.ev_bind, OD.ev_bindx, OD.ev_st, OD.ev_stx, OD.ev_nox, OD.ev_seq, OD.ev_seqr, OD.ev_seqx, OD.ev_lift, OD.ev_var, OD.ev_var1, OD.ev_k, OD.ev_op, OD.ev_op1, OD.ev_op2, OD.ev_un, OD.ev_un1, OD.ev_nil, OD.ev_cons, OD.ev_cons1, OD.ev_cons2, OD.ev_tup, OD.ev_tup1, OD.ev_lst, OD.ev_lst1, OD.ev_b, OD.ev_bl, OD.ev_b1, OD.ev_new, OD.ev_new1, OD.ev_m, OD.ev_m1, OD.ev_m2, OD.ev_and, OD.ev_andt, OD.ev_andf, OD.ev_or, OD.ev_ort, OD.ev_orf, OD.ev_not, OD.ev_not1, OD.ev_if, OD.ev_ift, OD.ev_iff, OD.ev_asb, OD.ev_asb1, OD.ev_tand, OD.ev_tandt, OD.ev_tandf, OD.ev_tor, OD.ev_tort, OD.ev_torf, OD.ev_tnot, OD.ev_tnot1, OD.ev_tru, OD.ev_tru1, OD.ev_o, OD.ev_is, OD.ev_is1, OD.ev_is2, OD.ev_ch, OD.ev_ch1, OD.ev_ch2, OD.ev_ch3t, OD.ev_ch3f, OD.ev_ch4, OD.ev_sl, OD.ev_sl1, OD.ev_sl2, OD.ev_sl3, OD.ev_on, OD.ev_os, OD.ev_os1, OD.ev_call, OD.ev_call1, OD.ev_asg, OD.ev_asg1, OD.ev_asgt, OD.ev_x, OD.ev_x1, OD.ev_r, OD.ev_r1, OD.ev_rn, OD.ev_skip, OD.ev_mseq, OD.ev_cont, OD.ev_break, OD.ev_ifs, OD.ev_ifst, OD.ev_ifsf, OD.ev_si, OD.ev_si1, OD.ev_si2, OD.ev_si3, OD.ev_si4, OD.ev_aug, OD.ev_aug0, OD.ev_aug1, OD.ev_aug2, OD.ev_fn, OD.ev_fnn, OD.ev_fnr, OD.ev_fnx, OD.ix_tup, OD.ix_lst, OD.ix_str, OD.at0, OD.at1, OD.at2, OD.at3, OD.len_tup, OD.len_scr, OD.len_lst, OD.int_int, OD.add_int, OD.add_tup, OD.sub_int, OD.eq_int, OD.eq_bl, OD.eq_str, OD.lt_int, OD.le_int, OD.gt_int, OD.ge_int, OD.mod_int, OD.div_int, OD.mul_int, OD.ev_wh, OD.ev_whf, OD.ev_wht, OD.ev_wen, OD.ev_wer, OD.ev_mst, OD.ev_mst1, OD.ev_msl, OD.ev_msl1, OD.ev_msl2, OD.ev_mscr, OD.ev_ent, OD.ev_ent1, OD.ev_zip, OD.ev_zip1, OD.ev_zip2, OD.ev_rg, OD.ev_lc, OD.ev_for, OD.ev_ext, OD.ev_ext1, List.getElem?_cons_zero, List.getElem?_cons_succ, List.set_cons_zero, List.set_cons_succ, List.replicate_succ, List.replicate_zero, List.map_cons, List.map_nil, List.length_cons, List.length_nil, List.cons_append, List.nil_append, List.append_nil, Nat.zero_add, Nat.reduceAdd, Nat.reduceSub, Nat.sub_self, len_lst e, z_lens, isTy_lst e, pop_last e, addI, hc6', pair_ok gh, hp, tru_bl, Bool.not_false, Bool.not_true, OD.ix_tup at0, OD.ix_tup at1, within_ok ga, hw, isTup gb, tyA]
/-- .. but the cell at j -/
structure AppJ (j : Nat) (S S' : Sto) : Prop where
  len : S.length ≤ S'.length
  same : ∀ i, i ≠ j → i < S.length → S'[i]? = S[i]?
theorem AppJ.refl {j : Nat} {S : Sto} : AppJ j S S := ⟨Nat.le_refl _, fun _ _ _ => rfl⟩
theorem AppJ.trans {j : Nat} {S S1 S2 : Sto} (a : AppJ j S S1) (b : AppJ j S1 S2) : AppJ j S S2 := ⟨Nat.le_trans a.len b.len, fun i h h2 => (b.same i h (Nat.lt_of_lt_of_le h2 a.len)).trans (a.same i h h2)⟩
theorem AppJ.set {j : Nat} {S : Sto} {c : Cell} : AppJ j S (S.set j c) := ⟨by simp, fun i h h2 => List.getElem?_set_ne (Ne.symm h)⟩
theorem AppJ.app {j : Nat} {S T : Sto} : AppJ j S (S ++ T) := ⟨by simp, fun i _ h => List.getElem?_append_left h⟩
theorem AppJ.out {S S' : Sto} {c : Cell} (a : AppJ S.length (S ++ [c]) S') : App S S' :=
  ⟨by have := a.len; simp at this; omega, fun i h => (a.same i (by omega) (by simp; omega)).trans (List.getElem?_append_left h)⟩
theorem Gd.app {L : Nat} {S S' : Sto} (a : App S S') {u : U} (g : Gd L S u) : Gd L S' u := by
  induction g with
  | non => exact .non
  | bl b => exact .bl b
  | int i => exact .int i
  | str s => exact .str s
  | tup hl _ ih => exact .tup hl ih
  | lst h => exact .lst (by rw [a.same _ (List.getElem?_eq_some_iff.mp h).1]; exact h)
  | dic h => exact .dic (by rw [a.same _ (List.getElem?_eq_some_iff.mp h).1]; exact h)
  | ins h => exact .ins (by rw [a.same _ (List.getElem?_eq_some_iff.mp h).1]; exact h)
theorem most_8 : most = 999999992 + 8 := rfl
def ik (u : U) : Bool := ikGo 8 [u] 0
theorem last_get {S : Sto} {c : Cell} : (S ++ [c])[S.length]? = some c := by simp
theorem kt_ok {L : Nat} {S : Sto} {u : U} (g : Gd L S u) : ∃ S', d_is_kind_there [u] S = .ok (.bl (ik u)) S' ∧ App S S' := by
  have R := kt_loop (u := u) (j := S.length) 8 [u] 0 none (S ++ [.lst [u]]) L most last_get (fun w hw => by rw [List.mem_singleton.mp hw]; exact g.app .app) (by simp) (by decide) (by decide) (by decide)
  have one : ([u] : List U).length ≤ sizeLine := by
    show 1 ≤ sizeLine
    decide
  unfold d_is_kind_there b_is_kind_there
  unfold mWh
  cases hi : ikGo 8 [u] 0 with
  | true =>
    obtain ⟨c', h', vs, q⟩ := R.1 hi
    refine ⟨(S ++ [Cell.lst [u]]).set S.length (.lst vs), ?_, AppJ.out AppJ.set⟩
    simp only [OD.ev_bind, OD.ev_bindx, OD.ev_st, OD.ev_stx, OD.ev_nox, OD.ev_seq, OD.ev_seqr, OD.ev_seqx, OD.ev_lift, OD.ev_var, OD.ev_var1, OD.ev_k, OD.ev_op, OD.ev_op1, OD.ev_op2, OD.ev_un, OD.ev_un1, OD.ev_nil, OD.ev_cons, OD.ev_cons1, OD.ev_cons2, OD.ev_tup, OD.ev_tup1, OD.ev_lst, OD.ev_lst1, OD.ev_b, OD.ev_bl, OD.ev_b1, OD.ev_new, OD.ev_new1, OD.ev_m, OD.ev_m1, OD.ev_m2, OD.ev_and, OD.ev_andt, OD.ev_andf, OD.ev_or, OD.ev_ort, OD.ev_orf, OD.ev_not, OD.ev_not1, OD.ev_if, OD.ev_ift, OD.ev_iff, OD.ev_asb, OD.ev_asb1, OD.ev_tand, OD.ev_tandt, OD.ev_tandf, OD.ev_tor, OD.ev_tort, OD.ev_torf, OD.ev_tnot, OD.ev_tnot1, OD.ev_tru, OD.ev_tru1, OD.ev_o, OD.ev_is, OD.ev_is1, OD.ev_is2, OD.ev_ch, OD.ev_ch1, OD.ev_ch2, OD.ev_ch3t, OD.ev_ch3f, OD.ev_ch4, OD.ev_sl, OD.ev_sl1, OD.ev_sl2, OD.ev_sl3, OD.ev_on, OD.ev_os, OD.ev_os1, OD.ev_call, OD.ev_call1, OD.ev_asg, OD.ev_asg1, OD.ev_asgt, OD.ev_x, OD.ev_x1, OD.ev_r, OD.ev_r1, OD.ev_rn, OD.ev_skip, OD.ev_mseq, OD.ev_cont, OD.ev_break, OD.ev_ifs, OD.ev_ifst, OD.ev_ifsf, OD.ev_si, OD.ev_si1, OD.ev_si2, OD.ev_si3, OD.ev_si4, OD.ev_aug, OD.ev_aug0, OD.ev_aug1, OD.ev_aug2, OD.ev_fn, OD.ev_fnn, OD.ev_fnr, OD.ev_fnx, OD.ix_tup, OD.ix_lst, OD.ix_str, OD.at0, OD.at1, OD.at2, OD.at3, OD.len_tup, OD.len_scr, OD.len_lst, OD.int_int, OD.add_int, OD.add_tup, OD.sub_int, OD.eq_int, OD.eq_bl, OD.eq_str, OD.lt_int, OD.le_int, OD.gt_int, OD.ge_int, OD.mod_int, OD.div_int, OD.mul_int, OD.ev_wh, OD.ev_whf, OD.ev_wht, OD.ev_wen, OD.ev_wer, OD.ev_mst, OD.ev_mst1, OD.ev_msl, OD.ev_msl1, OD.ev_msl2, OD.ev_mscr, OD.ev_ent, OD.ev_ent1, OD.ev_zip, OD.ev_zip1, OD.ev_zip2, OD.ev_rg, OD.ev_lc, OD.ev_for, OD.ev_ext, OD.ev_ext1, List.getElem?_cons_zero, List.getElem?_cons_succ, List.set_cons_zero, List.set_cons_succ, List.replicate_succ, List.replicate_zero, List.map_cons, List.map_nil, List.length_cons, List.length_nil, List.cons_append, List.nil_append, List.append_nil, Nat.zero_add, Nat.reduceAdd, Nat.reduceSub, Nat.sub_self, ev_lst1 one, q]
    unfold ik
    rw [hi]
  | false =>
    obtain ⟨vs, q⟩ := R.2 hi
    refine ⟨(S ++ [Cell.lst [u]]).set S.length (.lst vs), ?_, AppJ.out AppJ.set⟩
    simp only [OD.ev_bind, OD.ev_bindx, OD.ev_st, OD.ev_stx, OD.ev_nox, OD.ev_seq, OD.ev_seqr, OD.ev_seqx, OD.ev_lift, OD.ev_var, OD.ev_var1, OD.ev_k, OD.ev_op, OD.ev_op1, OD.ev_op2, OD.ev_un, OD.ev_un1, OD.ev_nil, OD.ev_cons, OD.ev_cons1, OD.ev_cons2, OD.ev_tup, OD.ev_tup1, OD.ev_lst, OD.ev_lst1, OD.ev_b, OD.ev_bl, OD.ev_b1, OD.ev_new, OD.ev_new1, OD.ev_m, OD.ev_m1, OD.ev_m2, OD.ev_and, OD.ev_andt, OD.ev_andf, OD.ev_or, OD.ev_ort, OD.ev_orf, OD.ev_not, OD.ev_not1, OD.ev_if, OD.ev_ift, OD.ev_iff, OD.ev_asb, OD.ev_asb1, OD.ev_tand, OD.ev_tandt, OD.ev_tandf, OD.ev_tor, OD.ev_tort, OD.ev_torf, OD.ev_tnot, OD.ev_tnot1, OD.ev_tru, OD.ev_tru1, OD.ev_o, OD.ev_is, OD.ev_is1, OD.ev_is2, OD.ev_ch, OD.ev_ch1, OD.ev_ch2, OD.ev_ch3t, OD.ev_ch3f, OD.ev_ch4, OD.ev_sl, OD.ev_sl1, OD.ev_sl2, OD.ev_sl3, OD.ev_on, OD.ev_os, OD.ev_os1, OD.ev_call, OD.ev_call1, OD.ev_asg, OD.ev_asg1, OD.ev_asgt, OD.ev_x, OD.ev_x1, OD.ev_r, OD.ev_r1, OD.ev_rn, OD.ev_skip, OD.ev_mseq, OD.ev_cont, OD.ev_break, OD.ev_ifs, OD.ev_ifst, OD.ev_ifsf, OD.ev_si, OD.ev_si1, OD.ev_si2, OD.ev_si3, OD.ev_si4, OD.ev_aug, OD.ev_aug0, OD.ev_aug1, OD.ev_aug2, OD.ev_fn, OD.ev_fnn, OD.ev_fnr, OD.ev_fnx, OD.ix_tup, OD.ix_lst, OD.ix_str, OD.at0, OD.at1, OD.at2, OD.at3, OD.len_tup, OD.len_scr, OD.len_lst, OD.int_int, OD.add_int, OD.add_tup, OD.sub_int, OD.eq_int, OD.eq_bl, OD.eq_str, OD.lt_int, OD.le_int, OD.gt_int, OD.ge_int, OD.mod_int, OD.div_int, OD.mul_int, OD.ev_wh, OD.ev_whf, OD.ev_wht, OD.ev_wen, OD.ev_wer, OD.ev_mst, OD.ev_mst1, OD.ev_msl, OD.ev_msl1, OD.ev_msl2, OD.ev_mscr, OD.ev_ent, OD.ev_ent1, OD.ev_zip, OD.ev_zip1, OD.ev_zip2, OD.ev_rg, OD.ev_lc, OD.ev_for, OD.ev_ext, OD.ev_ext1, List.getElem?_cons_zero, List.getElem?_cons_succ, List.set_cons_zero, List.set_cons_succ, List.replicate_succ, List.replicate_zero, List.map_cons, List.map_nil, List.length_cons, List.length_nil, List.cons_append, List.nil_append, List.append_nil, Nat.zero_add, Nat.reduceAdd, Nat.reduceSub, Nat.sub_self, ev_lst1 one, q]
    unfold ik
    rw [hi]
/-! ### the law's own -/
abbrev bLK : SM := (mSeq (mAsg (.nm 3) (mM 0 fPop (mVar 1) mNil))
  (mSeq (mAsg (.nm 2) (mOp fAdd (mVar 2) (mK (.int 1))))
  (mSeq (mIfS (tmOr (asB (mOp fGt (mVar 2) (mK (.int 6)))) (tmOr (tmNot (mTru (mIsT (isTy1 .tup (ownF 44)) (mVar 3)))) (tmOr (asB (mOp fNe (mB fLen (mCons (mVar 3) mNil)) (mK (.int 2)))) (tmNot (mTru (mCall 3 d__law_is_int (mCons (mOp fIx (mVar 3) (mK (.int 0))) (mCons (mK (.int 0)) (mCons (mK (.int 1)) mNil))))))))) (mRet (mK (.bl false))) mSkip)
  (mSeq (mIfS (tmOr (tmNot (mTru (mIsT (isTy1 .tup (ownF 44)) (mOp fIx (mVar 3) (mK (.int 1)))))) (asB (mOp fGt (mB fLen (mCons (mOp fIx (mVar 3) (mK (.int 1))) mNil)) (mK (.int 3))))) (mRet (mK (.bl false))) mSkip)
  (mExpr (mM 0 fExt (mVar 1) (mCons (mB fList (mCons (mOp fIx (mVar 3) (mK (.int 1))) mNil)) mNil)))))))
theorem ne_int {S : Sto} {i j : Int} : fNe (.int i) (.int j) S = some (.bl (!(i == j)), S) := rfl
theorem list_tup {S : Sto} {xs : List U} : fList [.tup xs] S = some (.ref S.length, S ++ [Cell.lst xs]) := rfl
theorem ext_lst {S : Sto} {j k : Nat} {ws xs : List U} (e : S[j]? = some (.lst ws)) (e2 : S[k]? = some (.lst xs)) (h : ws.length + xs.length ≤ sizeLine) : fExt (.ref j) [.ref k] S = some (.non, S.set j (.lst (ws ++ xs))) := by
  simp only [fExt, e, e2, if_pos h]
theorem z22 : ((((2 : Nat) : Int)) == 2) = true := rfl
theorem get_app {S T : Sto} {j : Nat} {c : Cell} (e : S[j]? = some c) : (S ++ T)[j]? = some c := by
  rw [List.getElem?_append_left (List.getElem?_eq_some_iff.mp e).1]; exact e
theorem lk_loop {u : U} {j : Nat} : ∀ (n : Nat) (ws : List U) (c : Int) (h3 : Option U) (S : Sto) (L m : Nat), S[j]? = some (.lst ws) → (∀ w, w ∈ ws → Gd L S w) → ws.length + 3 * n ≤ 1000 → 7 - c < n → c ≤ 6 → n ≤ m →
    (ikGo n ws c = true → ∃ c' h' S', whGo tKT bLK m [some u, some (.ref j), some (.int c), h3] S = .nx [some u, some (.ref j), some (.int c'), h'] S' ∧ AppJ j S S') ∧
    (ikGo n ws c = false → ∃ S', whGo tKT bLK m [some u, some (.ref j), some (.int c), h3] S = .rt (.bl false) S' ∧ AppJ j S S')
  | 0, ws, c, h3, S, L, m, e, g, hl, hc, hc6, hm => by omega
  | n + 1, ws, c, h3, S, L, 0, e, g, hl, hc, hc6, hm => absurd hm (by omega)
  | n + 1, ws, c, h3, S, L, m + 1, e, g, hl, hc, hc7, hm => by
    have hj : j < S.length := (List.getElem?_eq_some_iff.mp e).1
    rcases list_last (ws := ws) with rfl | ⟨w, h, rfl⟩
    · refine ⟨fun _ => ⟨c, h3, S, ?_, .refl⟩, fun q => by rw [ik_nil] at q; cases q⟩
      simp only [OD.ev_bind, OD.ev_bindx, OD.ev_st, OD.ev_stx, OD.ev_nox, OD.ev_seq, OD.ev_seqr, OD.ev_seqx, OD.ev_lift, OD.ev_var, OD.ev_var1, OD.ev_k, OD.ev_op, OD.ev_op1, OD.ev_op2, OD.ev_un, OD.ev_un1, OD.ev_nil, OD.ev_cons, OD.ev_cons1, OD.ev_cons2, OD.ev_tup, OD.ev_tup1, OD.ev_lst, OD.ev_lst1, OD.ev_b, OD.ev_bl, OD.ev_b1, OD.ev_new, OD.ev_new1, OD.ev_m, OD.ev_m1, OD.ev_m2, OD.ev_and, OD.ev_andt, OD.ev_andf, OD.ev_or, OD.ev_ort, OD.ev_orf, OD.ev_not, OD.ev_not1, OD.ev_if, OD.ev_ift, OD.ev_iff, OD.ev_asb, OD.ev_asb1, OD.ev_tand, OD.ev_tandt, OD.ev_tandf, OD.ev_tor, OD.ev_tort, OD.ev_torf, OD.ev_tnot, OD.ev_tnot1, OD.ev_tru, OD.ev_tru1, OD.ev_o, OD.ev_is, OD.ev_is1, OD.ev_is2, OD.ev_ch, OD.ev_ch1, OD.ev_ch2, OD.ev_ch3t, OD.ev_ch3f, OD.ev_ch4, OD.ev_sl, OD.ev_sl1, OD.ev_sl2, OD.ev_sl3, OD.ev_on, OD.ev_os, OD.ev_os1, OD.ev_call, OD.ev_call1, OD.ev_asg, OD.ev_asg1, OD.ev_asgt, OD.ev_x, OD.ev_x1, OD.ev_r, OD.ev_r1, OD.ev_rn, OD.ev_skip, OD.ev_mseq, OD.ev_cont, OD.ev_break, OD.ev_ifs, OD.ev_ifst, OD.ev_ifsf, OD.ev_si, OD.ev_si1, OD.ev_si2, OD.ev_si3, OD.ev_si4, OD.ev_aug, OD.ev_aug0, OD.ev_aug1, OD.ev_aug2, OD.ev_fn, OD.ev_fnn, OD.ev_fnr, OD.ev_fnx, OD.ix_tup, OD.ix_lst, OD.ix_str, OD.at0, OD.at1, OD.at2, OD.at3, OD.len_tup, OD.len_scr, OD.len_lst, OD.int_int, OD.add_int, OD.add_tup, OD.sub_int, OD.eq_int, OD.eq_bl, OD.eq_str, OD.lt_int, OD.le_int, OD.gt_int, OD.ge_int, OD.mod_int, OD.div_int, OD.mul_int, OD.ev_wh, OD.ev_whf, OD.ev_wht, OD.ev_wen, OD.ev_wer, OD.ev_mst, OD.ev_mst1, OD.ev_msl, OD.ev_msl1, OD.ev_msl2, OD.ev_mscr, OD.ev_ent, OD.ev_ent1, OD.ev_zip, OD.ev_zip1, OD.ev_zip2, OD.ev_rg, OD.ev_lc, OD.ev_for, OD.ev_ext, OD.ev_ext1, List.getElem?_cons_zero, List.getElem?_cons_succ, List.set_cons_zero, List.set_cons_succ, List.replicate_succ, List.replicate_zero, List.map_cons, List.map_nil, List.length_cons, List.length_nil, List.cons_append, List.nil_append, List.append_nil, Nat.zero_add, Nat.reduceAdd, Nat.reduceSub, Nat.sub_self, len_lst e, z_len0]
    · have gh : Gd L (S.set j (.lst w)) h := gd_set e (g h (by simp))
      have e1 : (S.set j (.lst w))[j]? = some (.lst w) := List.getElem?_set_self hj
      have hl2 : w.length + 1 + 3 * (n + 1) ≤ 1000 := by simpa using hl
      rw [ik_cons]
      by_cases hc6 : 6 < c + 1
      · rw [if_pos hc6]
        refine ⟨fun q => (nomatch q), fun _ => ⟨S.set j (.lst w), ?_, .set⟩⟩
        simp only [OD.ev_bind, OD.ev_bindx, OD.ev_st, OD.ev_stx, OD.ev_nox, OD.ev_seq, OD.ev_seqr, OD.ev_seqx, OD.ev_lift, OD.ev_var, OD.ev_var1, OD.ev_k, OD.ev_op, OD.ev_op1, OD.ev_op2, OD.ev_un, OD.ev_un1, OD.ev_nil, OD.ev_cons, OD.ev_cons1, OD.ev_cons2, OD.ev_tup, OD.ev_tup1, OD.ev_lst, OD.ev_lst1, OD.ev_b, OD.ev_bl, OD.ev_b1, OD.ev_new, OD.ev_new1, OD.ev_m, OD.ev_m1, OD.ev_m2, OD.ev_and, OD.ev_andt, OD.ev_andf, OD.ev_or, OD.ev_ort, OD.ev_orf, OD.ev_not, OD.ev_not1, OD.ev_if, OD.ev_ift, OD.ev_iff, OD.ev_asb, OD.ev_asb1, OD.ev_tand, OD.ev_tandt, OD.ev_tandf, OD.ev_tor, OD.ev_tort, OD.ev_torf, OD.ev_tnot, OD.ev_tnot1, OD.ev_tru, OD.ev_tru1, OD.ev_o, OD.ev_is, OD.ev_is1, OD.ev_is2, OD.ev_ch, OD.ev_ch1, OD.ev_ch2, OD.ev_ch3t, OD.ev_ch3f, OD.ev_ch4, OD.ev_sl, OD.ev_sl1, OD.ev_sl2, OD.ev_sl3, OD.ev_on, OD.ev_os, OD.ev_os1, OD.ev_call, OD.ev_call1, OD.ev_asg, OD.ev_asg1, OD.ev_asgt, OD.ev_x, OD.ev_x1, OD.ev_r, OD.ev_r1, OD.ev_rn, OD.ev_skip, OD.ev_mseq, OD.ev_cont, OD.ev_break, OD.ev_ifs, OD.ev_ifst, OD.ev_ifsf, OD.ev_si, OD.ev_si1, OD.ev_si2, OD.ev_si3, OD.ev_si4, OD.ev_aug, OD.ev_aug0, OD.ev_aug1, OD.ev_aug2, OD.ev_fn, OD.ev_fnn, OD.ev_fnr, OD.ev_fnx, OD.ix_tup, OD.ix_lst, OD.ix_str, OD.at0, OD.at1, OD.at2, OD.at3, OD.len_tup, OD.len_scr, OD.len_lst, OD.int_int, OD.add_int, OD.add_tup, OD.sub_int, OD.eq_int, OD.eq_bl, OD.eq_str, OD.lt_int, OD.le_int, OD.gt_int, OD.ge_int, OD.mod_int, OD.div_int, OD.mul_int, OD.ev_wh, OD.ev_whf, OD.ev_wht, OD.ev_wen, OD.ev_wer, OD.ev_mst, OD.ev_mst1, OD.ev_msl, OD.ev_msl1, OD.ev_msl2, OD.ev_mscr, OD.ev_ent, OD.ev_ent1, OD.ev_zip, OD.ev_zip1, OD.ev_zip2, OD.ev_rg, OD.ev_lc, OD.ev_for, OD.ev_ext, OD.ev_ext1, List.getElem?_cons_zero, List.getElem?_cons_succ, List.set_cons_zero, List.set_cons_succ, List.replicate_succ, List.replicate_zero, List.map_cons, List.map_nil, List.length_cons, List.length_nil, List.cons_append, List.nil_append, List.append_nil, Nat.zero_add, Nat.reduceAdd, Nat.reduceSub, Nat.sub_self, len_lst e, z_lens, isTy_lst e, pop_last e, decide_eq_true hc6]
      · rw [if_neg hc6]
        have hc6' := decide_eq_false hc6
        cases h with
        | tup ys =>
          by_cases hp : ys.length = 2
          · obtain ⟨a, b, rfl⟩ : ∃ a b, ys = [a, b] := by
              match ys, hp with
              | [a, b], _ => exact ⟨a, b, rfl⟩
            have ga : Gd L (S.set j (.lst w)) a := gd_tup gh a (by simp)
            have gb : Gd L (S.set j (.lst w)) b := gd_tup gh b (by simp)
            have hh : hdOk (.tup [a, b]) = within01 a := by cases a <;> rfl
            rw [hh]
            cases hw : within01 a with
            | false =>
              refine ⟨fun q => (nomatch q), fun _ => ⟨S.set j (.lst w), ?_, .set⟩⟩
              simp only [OD.ev_bind, OD.ev_bindx, OD.ev_st, OD.ev_stx, OD.ev_nox, OD.ev_seq, OD.ev_seqr, OD.ev_seqx, OD.ev_lift, OD.ev_var, OD.ev_var1, OD.ev_k, OD.ev_op, OD.ev_op1, OD.ev_op2, OD.ev_un, OD.ev_un1, OD.ev_nil, OD.ev_cons, OD.ev_cons1, OD.ev_cons2, OD.ev_tup, OD.ev_tup1, OD.ev_lst, OD.ev_lst1, OD.ev_b, OD.ev_bl, OD.ev_b1, OD.ev_new, OD.ev_new1, OD.ev_m, OD.ev_m1, OD.ev_m2, OD.ev_and, OD.ev_andt, OD.ev_andf, OD.ev_or, OD.ev_ort, OD.ev_orf, OD.ev_not, OD.ev_not1, OD.ev_if, OD.ev_ift, OD.ev_iff, OD.ev_asb, OD.ev_asb1, OD.ev_tand, OD.ev_tandt, OD.ev_tandf, OD.ev_tor, OD.ev_tort, OD.ev_torf, OD.ev_tnot, OD.ev_tnot1, OD.ev_tru, OD.ev_tru1, OD.ev_o, OD.ev_is, OD.ev_is1, OD.ev_is2, OD.ev_ch, OD.ev_ch1, OD.ev_ch2, OD.ev_ch3t, OD.ev_ch3f, OD.ev_ch4, OD.ev_sl, OD.ev_sl1, OD.ev_sl2, OD.ev_sl3, OD.ev_on, OD.ev_os, OD.ev_os1, OD.ev_call, OD.ev_call1, OD.ev_asg, OD.ev_asg1, OD.ev_asgt, OD.ev_x, OD.ev_x1, OD.ev_r, OD.ev_r1, OD.ev_rn, OD.ev_skip, OD.ev_mseq, OD.ev_cont, OD.ev_break, OD.ev_ifs, OD.ev_ifst, OD.ev_ifsf, OD.ev_si, OD.ev_si1, OD.ev_si2, OD.ev_si3, OD.ev_si4, OD.ev_aug, OD.ev_aug0, OD.ev_aug1, OD.ev_aug2, OD.ev_fn, OD.ev_fnn, OD.ev_fnr, OD.ev_fnx, OD.ix_tup, OD.ix_lst, OD.ix_str, OD.at0, OD.at1, OD.at2, OD.at3, OD.len_tup, OD.len_scr, OD.len_lst, OD.int_int, OD.add_int, OD.add_tup, OD.sub_int, OD.eq_int, OD.eq_bl, OD.eq_str, OD.lt_int, OD.le_int, OD.gt_int, OD.ge_int, OD.mod_int, OD.div_int, OD.mul_int, OD.ev_wh, OD.ev_whf, OD.ev_wht, OD.ev_wen, OD.ev_wer, OD.ev_mst, OD.ev_mst1, OD.ev_msl, OD.ev_msl1, OD.ev_msl2, OD.ev_mscr, OD.ev_ent, OD.ev_ent1, OD.ev_zip, OD.ev_zip1, OD.ev_zip2, OD.ev_rg, OD.ev_lc, OD.ev_for, OD.ev_ext, OD.ev_ext1, List.getElem?_cons_zero, List.getElem?_cons_succ, List.set_cons_zero, List.set_cons_succ, List.replicate_succ, List.replicate_zero, List.map_cons, List.map_nil, List.length_cons, List.length_nil, List.cons_append, List.nil_append, List.append_nil, Nat.zero_add, Nat.reduceAdd, Nat.reduceSub, Nat.sub_self, len_lst e, z_lens, isTy_lst e, pop_last e, hc6', isTup gh, tyA, tru_bl, Bool.not_false, Bool.not_true, ne_int, z22, OD.ix_tup at0, lawint_ok ga, hw]
            | true =>
              rw [if_pos rfl]
              cases b with
              | tup xs =>
                by_cases hx : xs.length ≤ 3
                · have hs : subs (.tup [a, .tup xs]) = some xs := by unfold subs; simp only [if_pos hx]
                  rw [hs]
                  have hz : w.length + xs.length ≤ sizeLine := by
                    have : (1000 : Nat) ≤ sizeLine := by decide
                    omega
                  have hj1 : j < (S.set j (.lst w)).length := by rw [List.length_set]; exact hj
                  have e2 : ((S.set j (.lst w)) ++ [Cell.lst xs])[j]? = some (.lst w) := get_app e1
                  have e3 : ((S.set j (.lst w)) ++ [Cell.lst xs])[(S.set j (.lst w)).length]? = some (.lst xs) := last_get
                  have e4 : (((S.set j (.lst w)) ++ [Cell.lst xs]).set j (.lst (w ++ xs)))[j]? = some (.lst (w ++ xs)) := List.getElem?_set_self (by rw [List.length_append]; omega)
                  have g2 : ∀ x, x ∈ w ++ xs → Gd L (((S.set j (.lst w)) ++ [Cell.lst xs]).set j (.lst (w ++ xs))) x := fun x hx => by
                    refine gd_set e2 (Gd.app .app ?_)
                    rcases List.mem_append.mp hx with q | q
                    · exact gd_set e (g x (by simp [q]))
                    · exact gd_tup gb x q
                  have R := lk_loop (u := u) n (w ++ xs) (c + 1) (some (.tup [a, .tup xs])) _ L m e4 g2 (by rw [List.length_append]; omega) (by omega) (by omega) (by omega)
                  have A : AppJ j S (((S.set j (.lst w)) ++ [Cell.lst xs]).set j (.lst (w ++ xs))) := (AppJ.set.trans .app).trans .set
                  have step : whGo tKT bLK (m + 1) [some u, some (.ref j), some (.int c), h3] S = whGo tKT bLK m [some u, some (.ref j), some (.int (c + 1)), some (.tup [a, .tup xs])] (((S.set j (.lst w)) ++ [Cell.lst xs]).set j (.lst (w ++ xs))) := by
                    simp only [OD.ev_bind, OD.ev_bindx, OD.ev_st, OD.ev_stx, OD.ev_nox, OD.ev_seq, OD.ev_seqr, OD.ev_seqx, OD.ev_lift, OD.ev_var, OD.ev_var1, OD.ev_k, OD.ev_op, OD.ev_op1, OD.ev_op2, OD.ev_un, OD.ev_un1, OD.ev_nil, OD.ev_cons, OD.ev_cons1, OD.ev_cons2, OD.ev_tup, OD.ev_tup1, OD.ev_lst, OD.ev_lst1, OD.ev_b, OD.ev_bl, OD.ev_b1, OD.ev_new, OD.ev_new1, OD.ev_m, OD.ev_m1, OD.ev_m2, OD.ev_and, OD.ev_andt, OD.ev_andf, OD.ev_or, OD.ev_ort, OD.ev_orf, OD.ev_not, OD.ev_not1, OD.ev_if, OD.ev_ift, OD.ev_iff, OD.ev_asb, OD.ev_asb1, OD.ev_tand, OD.ev_tandt, OD.ev_tandf, OD.ev_tor, OD.ev_tort, OD.ev_torf, OD.ev_tnot, OD.ev_tnot1, OD.ev_tru, OD.ev_tru1, OD.ev_o, OD.ev_is, OD.ev_is1, OD.ev_is2, OD.ev_ch, OD.ev_ch1, OD.ev_ch2, OD.ev_ch3t, OD.ev_ch3f, OD.ev_ch4, OD.ev_sl, OD.ev_sl1, OD.ev_sl2, OD.ev_sl3, OD.ev_on, OD.ev_os, OD.ev_os1, OD.ev_call, OD.ev_call1, OD.ev_asg, OD.ev_asg1, OD.ev_asgt, OD.ev_x, OD.ev_x1, OD.ev_r, OD.ev_r1, OD.ev_rn, OD.ev_skip, OD.ev_mseq, OD.ev_cont, OD.ev_break, OD.ev_ifs, OD.ev_ifst, OD.ev_ifsf, OD.ev_si, OD.ev_si1, OD.ev_si2, OD.ev_si3, OD.ev_si4, OD.ev_aug, OD.ev_aug0, OD.ev_aug1, OD.ev_aug2, OD.ev_fn, OD.ev_fnn, OD.ev_fnr, OD.ev_fnx, OD.ix_tup, OD.ix_lst, OD.ix_str, OD.at0, OD.at1, OD.at2, OD.at3, OD.len_tup, OD.len_scr, OD.len_lst, OD.int_int, OD.add_int, OD.add_tup, OD.sub_int, OD.eq_int, OD.eq_bl, OD.eq_str, OD.lt_int, OD.le_int, OD.gt_int, OD.ge_int, OD.mod_int, OD.div_int, OD.mul_int, OD.ev_wh, OD.ev_whf, OD.ev_wht, OD.ev_wen, OD.ev_wer, OD.ev_mst, OD.ev_mst1, OD.ev_msl, OD.ev_msl1, OD.ev_msl2, OD.ev_mscr, OD.ev_ent, OD.ev_ent1, OD.ev_zip, OD.ev_zip1, OD.ev_zip2, OD.ev_rg, OD.ev_lc, OD.ev_for, OD.ev_ext, OD.ev_ext1, List.getElem?_cons_zero, List.getElem?_cons_succ, List.set_cons_zero, List.set_cons_succ, List.replicate_succ, List.replicate_zero, List.map_cons, List.map_nil, List.length_cons, List.length_nil, List.cons_append, List.nil_append, List.append_nil, Nat.zero_add, Nat.reduceAdd, Nat.reduceSub, Nat.sub_self, len_lst e, z_lens, isTy_lst e, pop_last e, hc6', isTup gh, tyA, tru_bl, Bool.not_false, Bool.not_true, ne_int, z22, OD.ix_tup at0, OD.ix_tup at1, lawint_ok ga, hw, isTup gb, len_gt3 hx, isTy_lst e1, list_tup, ext_lst e2 e3 hz]
                  rw [step]
                  refine ⟨fun q => ?_, fun q => ?_⟩
                  · obtain ⟨c', h', S', q2, a2⟩ := R.1 q
                    exact ⟨c', h', S', q2, A.trans a2⟩
                  · obtain ⟨S', q2, a2⟩ := R.2 q
                    exact ⟨S', q2, A.trans a2⟩
                · have hs : subs (.tup [a, .tup xs]) = none := by unfold subs; simp only [if_neg hx]
                  rw [hs]
                  refine ⟨fun q => (nomatch q), fun _ => ⟨S.set j (.lst w), ?_, .set⟩⟩
                  simp only [OD.ev_bind, OD.ev_bindx, OD.ev_st, OD.ev_stx, OD.ev_nox, OD.ev_seq, OD.ev_seqr, OD.ev_seqx, OD.ev_lift, OD.ev_var, OD.ev_var1, OD.ev_k, OD.ev_op, OD.ev_op1, OD.ev_op2, OD.ev_un, OD.ev_un1, OD.ev_nil, OD.ev_cons, OD.ev_cons1, OD.ev_cons2, OD.ev_tup, OD.ev_tup1, OD.ev_lst, OD.ev_lst1, OD.ev_b, OD.ev_bl, OD.ev_b1, OD.ev_new, OD.ev_new1, OD.ev_m, OD.ev_m1, OD.ev_m2, OD.ev_and, OD.ev_andt, OD.ev_andf, OD.ev_or, OD.ev_ort, OD.ev_orf, OD.ev_not, OD.ev_not1, OD.ev_if, OD.ev_ift, OD.ev_iff, OD.ev_asb, OD.ev_asb1, OD.ev_tand, OD.ev_tandt, OD.ev_tandf, OD.ev_tor, OD.ev_tort, OD.ev_torf, OD.ev_tnot, OD.ev_tnot1, OD.ev_tru, OD.ev_tru1, OD.ev_o, OD.ev_is, OD.ev_is1, OD.ev_is2, OD.ev_ch, OD.ev_ch1, OD.ev_ch2, OD.ev_ch3t, OD.ev_ch3f, OD.ev_ch4, OD.ev_sl, OD.ev_sl1, OD.ev_sl2, OD.ev_sl3, OD.ev_on, OD.ev_os, OD.ev_os1, OD.ev_call, OD.ev_call1, OD.ev_asg, OD.ev_asg1, OD.ev_asgt, OD.ev_x, OD.ev_x1, OD.ev_r, OD.ev_r1, OD.ev_rn, OD.ev_skip, OD.ev_mseq, OD.ev_cont, OD.ev_break, OD.ev_ifs, OD.ev_ifst, OD.ev_ifsf, OD.ev_si, OD.ev_si1, OD.ev_si2, OD.ev_si3, OD.ev_si4, OD.ev_aug, OD.ev_aug0, OD.ev_aug1, OD.ev_aug2, OD.ev_fn, OD.ev_fnn, OD.ev_fnr, OD.ev_fnx, OD.ix_tup, OD.ix_lst, OD.ix_str, OD.at0, OD.at1, OD.at2, OD.at3, OD.len_tup, OD.len_scr, OD.len_lst, OD.int_int, OD.add_int, OD.add_tup, OD.sub_int, OD.eq_int, OD.eq_bl, OD.eq_str, OD.lt_int, OD.le_int, OD.gt_int, OD.ge_int, OD.mod_int, OD.div_int, OD.mul_int, OD.ev_wh, OD.ev_whf, OD.ev_wht, OD.ev_wen, OD.ev_wer, OD.ev_mst, OD.ev_mst1, OD.ev_msl, OD.ev_msl1, OD.ev_msl2, OD.ev_mscr, OD.ev_ent, OD.ev_ent1, OD.ev_zip, OD.ev_zip1, OD.ev_zip2, OD.ev_rg, OD.ev_lc, OD.ev_for, OD.ev_ext, OD.ev_ext1, List.getElem?_cons_zero, List.getElem?_cons_succ, List.set_cons_zero, List.set_cons_succ, List.replicate_succ, List.replicate_zero, List.map_cons, List.map_nil, List.length_cons, List.length_nil, List.cons_append, List.nil_append, List.append_nil, Nat.zero_add, Nat.reduceAdd, Nat.reduceSub, Nat.sub_self, len_lst e, z_lens, isTy_lst e, pop_last e, hc6', isTup gh, tyA, tru_bl, Bool.not_false, Bool.not_true, ne_int, z22, OD.ix_tup at0, OD.ix_tup at1, lawint_ok ga, hw, isTup gb, len_gt3' hx]
              | _ =>
                refine ⟨fun q => (nomatch q), fun _ => ⟨S.set j (.lst w), ?_, .set⟩⟩
                simp only [OD.ev_bind, OD.ev_bindx, OD.ev_st, OD.ev_stx, OD.ev_nox, OD.ev_seq, OD.ev_seqr, OD.ev_seqx, OD.ev_lift, OD.ev_var, OD.ev_var1, OD.ev_k, OD.ev_op, OD.ev_op1, OD.ev_op2, OD.ev_un, OD.ev_un1, OD.ev_nil, OD.ev_cons, OD.ev_cons1, OD.ev_cons2, OD.ev_tup, OD.ev_tup1, OD.ev_lst, OD.ev_lst1, OD.ev_b, OD.ev_bl, OD.ev_b1, OD.ev_new, OD.ev_new1, OD.ev_m, OD.ev_m1, OD.ev_m2, OD.ev_and, OD.ev_andt, OD.ev_andf, OD.ev_or, OD.ev_ort, OD.ev_orf, OD.ev_not, OD.ev_not1, OD.ev_if, OD.ev_ift, OD.ev_iff, OD.ev_asb, OD.ev_asb1, OD.ev_tand, OD.ev_tandt, OD.ev_tandf, OD.ev_tor, OD.ev_tort, OD.ev_torf, OD.ev_tnot, OD.ev_tnot1, OD.ev_tru, OD.ev_tru1, OD.ev_o, OD.ev_is, OD.ev_is1, OD.ev_is2, OD.ev_ch, OD.ev_ch1, OD.ev_ch2, OD.ev_ch3t, OD.ev_ch3f, OD.ev_ch4, OD.ev_sl, OD.ev_sl1, OD.ev_sl2, OD.ev_sl3, OD.ev_on, OD.ev_os, OD.ev_os1, OD.ev_call, OD.ev_call1, OD.ev_asg, OD.ev_asg1, OD.ev_asgt, OD.ev_x, OD.ev_x1, OD.ev_r, OD.ev_r1, OD.ev_rn, OD.ev_skip, OD.ev_mseq, OD.ev_cont, OD.ev_break, OD.ev_ifs, OD.ev_ifst, OD.ev_ifsf, OD.ev_si, OD.ev_si1, OD.ev_si2, OD.ev_si3, OD.ev_si4, OD.ev_aug, OD.ev_aug0, OD.ev_aug1, OD.ev_aug2, OD.ev_fn, OD.ev_fnn, OD.ev_fnr, OD.ev_fnx, OD.ix_tup, OD.ix_lst, OD.ix_str, OD.at0, OD.at1, OD.at2, OD.at3, OD.len_tup, OD.len_scr, OD.len_lst, OD.int_int, OD.add_int, OD.add_tup, OD.sub_int, OD.eq_int, OD.eq_bl, OD.eq_str, OD.lt_int, OD.le_int, OD.gt_int, OD.ge_int, OD.mod_int, OD.div_int, OD.mul_int, OD.ev_wh, OD.ev_whf, OD.ev_wht, OD.ev_wen, OD.ev_wer, OD.ev_mst, OD.ev_mst1, OD.ev_msl, OD.ev_msl1, OD.ev_msl2, OD.ev_mscr, OD.ev_ent, OD.ev_ent1, OD.ev_zip, OD.ev_zip1, OD.ev_zip2, OD.ev_rg, OD.ev_lc, OD.ev_for, OD.ev_ext, OD.ev_ext1, List.getElem?_cons_zero, List.getElem?_cons_succ, List.set_cons_zero, List.set_cons_succ, List.replicate_succ, List.replicate_zero, List.map_cons, List.map_nil, List.length_cons, List.length_nil, List.cons_append, List.nil_append, List.append_nil, Nat.zero_add, Nat.reduceAdd, Nat.reduceSub, Nat.sub_self, len_lst e, z_lens, isTy_lst e, pop_last e, hc6', isTup gh, tyA, tru_bl, Bool.not_false, Bool.not_true, ne_int, z22, OD.ix_tup at0, OD.ix_tup at1, lawint_ok ga, hw, isTup gb]
          · have hh : hdOk (.tup ys) = false := by
              unfold hdOk
              split
              · rename_i q; cases q; simp at hp
              · rfl
            rw [hh]
            have hb : ((((ys.length : Nat) : Int)) == 2) = false := beq_eq_false_iff_ne.mpr (by omega)
            refine ⟨fun q => (nomatch q), fun _ => ⟨S.set j (.lst w), ?_, .set⟩⟩
            simp only [OD.ev_bind, OD.ev_bindx, OD.ev_st, OD.ev_stx, OD.ev_nox, OD.ev_seq, OD.ev_seqr, OD.ev_seqx, OD.ev_lift, OD.ev_var, OD.ev_var1, OD.ev_k, OD.ev_op, OD.ev_op1, OD.ev_op2, OD.ev_un, OD.ev_un1, OD.ev_nil, OD.ev_cons, OD.ev_cons1, OD.ev_cons2, OD.ev_tup, OD.ev_tup1, OD.ev_lst, OD.ev_lst1, OD.ev_b, OD.ev_bl, OD.ev_b1, OD.ev_new, OD.ev_new1, OD.ev_m, OD.ev_m1, OD.ev_m2, OD.ev_and, OD.ev_andt, OD.ev_andf, OD.ev_or, OD.ev_ort, OD.ev_orf, OD.ev_not, OD.ev_not1, OD.ev_if, OD.ev_ift, OD.ev_iff, OD.ev_asb, OD.ev_asb1, OD.ev_tand, OD.ev_tandt, OD.ev_tandf, OD.ev_tor, OD.ev_tort, OD.ev_torf, OD.ev_tnot, OD.ev_tnot1, OD.ev_tru, OD.ev_tru1, OD.ev_o, OD.ev_is, OD.ev_is1, OD.ev_is2, OD.ev_ch, OD.ev_ch1, OD.ev_ch2, OD.ev_ch3t, OD.ev_ch3f, OD.ev_ch4, OD.ev_sl, OD.ev_sl1, OD.ev_sl2, OD.ev_sl3, OD.ev_on, OD.ev_os, OD.ev_os1, OD.ev_call, OD.ev_call1, OD.ev_asg, OD.ev_asg1, OD.ev_asgt, OD.ev_x, OD.ev_x1, OD.ev_r, OD.ev_r1, OD.ev_rn, OD.ev_skip, OD.ev_mseq, OD.ev_cont, OD.ev_break, OD.ev_ifs, OD.ev_ifst, OD.ev_ifsf, OD.ev_si, OD.ev_si1, OD.ev_si2, OD.ev_si3, OD.ev_si4, OD.ev_aug, OD.ev_aug0, OD.ev_aug1, OD.ev_aug2, OD.ev_fn, OD.ev_fnn, OD.ev_fnr, OD.ev_fnx, OD.ix_tup, OD.ix_lst, OD.ix_str, OD.at0, OD.at1, OD.at2, OD.at3, OD.len_tup, OD.len_scr, OD.len_lst, OD.int_int, OD.add_int, OD.add_tup, OD.sub_int, OD.eq_int, OD.eq_bl, OD.eq_str, OD.lt_int, OD.le_int, OD.gt_int, OD.ge_int, OD.mod_int, OD.div_int, OD.mul_int, OD.ev_wh, OD.ev_whf, OD.ev_wht, OD.ev_wen, OD.ev_wer, OD.ev_mst, OD.ev_mst1, OD.ev_msl, OD.ev_msl1, OD.ev_msl2, OD.ev_mscr, OD.ev_ent, OD.ev_ent1, OD.ev_zip, OD.ev_zip1, OD.ev_zip2, OD.ev_rg, OD.ev_lc, OD.ev_for, OD.ev_ext, OD.ev_ext1, List.getElem?_cons_zero, List.getElem?_cons_succ, List.set_cons_zero, List.set_cons_succ, List.replicate_succ, List.replicate_zero, List.map_cons, List.map_nil, List.length_cons, List.length_nil, List.cons_append, List.nil_append, List.append_nil, Nat.zero_add, Nat.reduceAdd, Nat.reduceSub, Nat.sub_self, len_lst e, z_lens, isTy_lst e, pop_last e, hc6', isTup gh, tyA, tru_bl, Bool.not_false, Bool.not_true, ne_int, hb]
        | _ =>
          refine ⟨fun q => (nomatch q), fun _ => ⟨S.set j (.lst w), ?_, .set⟩⟩
          simp only [OD.ev_bind, OD.ev_bindx, OD.ev_st, OD.ev_stx, OD.ev_nox, OD.ev_seq, OD.ev_seqr, OD.ev_seqx, OD.ev_lift, OD.ev_var, OD.ev_var1, OD.ev_k, OD.ev_op, OD.ev_op1, OD.ev_op2, OD.ev_un, OD.ev_un1, OD.ev_nil, OD.ev_cons, OD.ev_cons1, OD.ev_cons2, OD.ev_tup, OD.ev_tup1, OD.ev_lst, OD.ev_lst1, OD.ev_b, OD.ev_bl, OD.ev_b1, OD.ev_new, OD.ev_new1, OD.ev_m, OD.ev_m1, OD.ev_m2, OD.ev_and, OD.ev_andt, OD.ev_andf, OD.ev_or, OD.ev_ort, OD.ev_orf, OD.ev_not, OD.ev_not1, OD.ev_if, OD.ev_ift, OD.ev_iff, OD.ev_asb, OD.ev_asb1, OD.ev_tand, OD.ev_tandt, OD.ev_tandf, OD.ev_tor, OD.ev_tort, OD.ev_torf, OD.ev_tnot, OD.ev_tnot1, OD.ev_tru, OD.ev_tru1, OD.ev_o, OD.ev_is, OD.ev_is1, OD.ev_is2, OD.ev_ch, OD.ev_ch1, OD.ev_ch2, OD.ev_ch3t, OD.ev_ch3f, OD.ev_ch4, OD.ev_sl, OD.ev_sl1, OD.ev_sl2, OD.ev_sl3, OD.ev_on, OD.ev_os, OD.ev_os1, OD.ev_call, OD.ev_call1, OD.ev_asg, OD.ev_asg1, OD.ev_asgt, OD.ev_x, OD.ev_x1, OD.ev_r, OD.ev_r1, OD.ev_rn, OD.ev_skip, OD.ev_mseq, OD.ev_cont, OD.ev_break, OD.ev_ifs, OD.ev_ifst, OD.ev_ifsf, OD.ev_si, OD.ev_si1, OD.ev_si2, OD.ev_si3, OD.ev_si4, OD.ev_aug, OD.ev_aug0, OD.ev_aug1, OD.ev_aug2, OD.ev_fn, OD.ev_fnn, OD.ev_fnr, OD.ev_fnx, OD.ix_tup, OD.ix_lst, OD.ix_str, OD.at0, OD.at1, OD.at2, OD.at3, OD.len_tup, OD.len_scr, OD.len_lst, OD.int_int, OD.add_int, OD.add_tup, OD.sub_int, OD.eq_int, OD.eq_bl, OD.eq_str, OD.lt_int, OD.le_int, OD.gt_int, OD.ge_int, OD.mod_int, OD.div_int, OD.mul_int, OD.ev_wh, OD.ev_whf, OD.ev_wht, OD.ev_wen, OD.ev_wer, OD.ev_mst, OD.ev_mst1, OD.ev_msl, OD.ev_msl1, OD.ev_msl2, OD.ev_mscr, OD.ev_ent, OD.ev_ent1, OD.ev_zip, OD.ev_zip1, OD.ev_zip2, OD.ev_rg, OD.ev_lc, OD.ev_for, OD.ev_ext, OD.ev_ext1, List.getElem?_cons_zero, List.getElem?_cons_succ, List.set_cons_zero, List.set_cons_succ, List.replicate_succ, List.replicate_zero, List.map_cons, List.map_nil, List.length_cons, List.length_nil, List.cons_append, List.nil_append, List.append_nil, Nat.zero_add, Nat.reduceAdd, Nat.reduceSub, Nat.sub_self, len_lst e, z_lens, isTy_lst e, pop_last e, hc6', isTup gh, tyA, tru_bl, Bool.not_false, Bool.not_true]
theorem lk_ok {L : Nat} {S : Sto} {u : U} (g : Gd L S u) : ∃ S', d__law_is_kind [u] S = .ok (.bl (ik u)) S' ∧ App S S' := by
  have R := lk_loop (u := u) (j := S.length) 8 [u] 0 none (S ++ [.lst [u]]) L most last_get (fun w hw => by rw [List.mem_singleton.mp hw]; exact g.app .app) (by simp) (by decide) (by decide) (by decide)
  have one : ([u] : List U).length ≤ sizeLine := by
    show 1 ≤ sizeLine
    decide
  unfold d__law_is_kind b__law_is_kind
  unfold mWh
  cases hi : ikGo 8 [u] 0 with
  | true =>
    obtain ⟨c', h', S', q, a⟩ := R.1 hi
    refine ⟨S', ?_, AppJ.out a⟩
    simp only [OD.ev_bind, OD.ev_bindx, OD.ev_st, OD.ev_stx, OD.ev_nox, OD.ev_seq, OD.ev_seqr, OD.ev_seqx, OD.ev_lift, OD.ev_var, OD.ev_var1, OD.ev_k, OD.ev_op, OD.ev_op1, OD.ev_op2, OD.ev_un, OD.ev_un1, OD.ev_nil, OD.ev_cons, OD.ev_cons1, OD.ev_cons2, OD.ev_tup, OD.ev_tup1, OD.ev_lst, OD.ev_lst1, OD.ev_b, OD.ev_bl, OD.ev_b1, OD.ev_new, OD.ev_new1, OD.ev_m, OD.ev_m1, OD.ev_m2, OD.ev_and, OD.ev_andt, OD.ev_andf, OD.ev_or, OD.ev_ort, OD.ev_orf, OD.ev_not, OD.ev_not1, OD.ev_if, OD.ev_ift, OD.ev_iff, OD.ev_asb, OD.ev_asb1, OD.ev_tand, OD.ev_tandt, OD.ev_tandf, OD.ev_tor, OD.ev_tort, OD.ev_torf, OD.ev_tnot, OD.ev_tnot1, OD.ev_tru, OD.ev_tru1, OD.ev_o, OD.ev_is, OD.ev_is1, OD.ev_is2, OD.ev_ch, OD.ev_ch1, OD.ev_ch2, OD.ev_ch3t, OD.ev_ch3f, OD.ev_ch4, OD.ev_sl, OD.ev_sl1, OD.ev_sl2, OD.ev_sl3, OD.ev_on, OD.ev_os, OD.ev_os1, OD.ev_call, OD.ev_call1, OD.ev_asg, OD.ev_asg1, OD.ev_asgt, OD.ev_x, OD.ev_x1, OD.ev_r, OD.ev_r1, OD.ev_rn, OD.ev_skip, OD.ev_mseq, OD.ev_cont, OD.ev_break, OD.ev_ifs, OD.ev_ifst, OD.ev_ifsf, OD.ev_si, OD.ev_si1, OD.ev_si2, OD.ev_si3, OD.ev_si4, OD.ev_aug, OD.ev_aug0, OD.ev_aug1, OD.ev_aug2, OD.ev_fn, OD.ev_fnn, OD.ev_fnr, OD.ev_fnx, OD.ix_tup, OD.ix_lst, OD.ix_str, OD.at0, OD.at1, OD.at2, OD.at3, OD.len_tup, OD.len_scr, OD.len_lst, OD.int_int, OD.add_int, OD.add_tup, OD.sub_int, OD.eq_int, OD.eq_bl, OD.eq_str, OD.lt_int, OD.le_int, OD.gt_int, OD.ge_int, OD.mod_int, OD.div_int, OD.mul_int, OD.ev_wh, OD.ev_whf, OD.ev_wht, OD.ev_wen, OD.ev_wer, OD.ev_mst, OD.ev_mst1, OD.ev_msl, OD.ev_msl1, OD.ev_msl2, OD.ev_mscr, OD.ev_ent, OD.ev_ent1, OD.ev_zip, OD.ev_zip1, OD.ev_zip2, OD.ev_rg, OD.ev_lc, OD.ev_for, OD.ev_ext, OD.ev_ext1, List.getElem?_cons_zero, List.getElem?_cons_succ, List.set_cons_zero, List.set_cons_succ, List.replicate_succ, List.replicate_zero, List.map_cons, List.map_nil, List.length_cons, List.length_nil, List.cons_append, List.nil_append, List.append_nil, Nat.zero_add, Nat.reduceAdd, Nat.reduceSub, Nat.sub_self, ev_lst1 one, q]
    unfold ik
    rw [hi]
  | false =>
    obtain ⟨S', q, a⟩ := R.2 hi
    refine ⟨S', ?_, AppJ.out a⟩
    simp only [OD.ev_bind, OD.ev_bindx, OD.ev_st, OD.ev_stx, OD.ev_nox, OD.ev_seq, OD.ev_seqr, OD.ev_seqx, OD.ev_lift, OD.ev_var, OD.ev_var1, OD.ev_k, OD.ev_op, OD.ev_op1, OD.ev_op2, OD.ev_un, OD.ev_un1, OD.ev_nil, OD.ev_cons, OD.ev_cons1, OD.ev_cons2, OD.ev_tup, OD.ev_tup1, OD.ev_lst, OD.ev_lst1, OD.ev_b, OD.ev_bl, OD.ev_b1, OD.ev_new, OD.ev_new1, OD.ev_m, OD.ev_m1, OD.ev_m2, OD.ev_and, OD.ev_andt, OD.ev_andf, OD.ev_or, OD.ev_ort, OD.ev_orf, OD.ev_not, OD.ev_not1, OD.ev_if, OD.ev_ift, OD.ev_iff, OD.ev_asb, OD.ev_asb1, OD.ev_tand, OD.ev_tandt, OD.ev_tandf, OD.ev_tor, OD.ev_tort, OD.ev_torf, OD.ev_tnot, OD.ev_tnot1, OD.ev_tru, OD.ev_tru1, OD.ev_o, OD.ev_is, OD.ev_is1, OD.ev_is2, OD.ev_ch, OD.ev_ch1, OD.ev_ch2, OD.ev_ch3t, OD.ev_ch3f, OD.ev_ch4, OD.ev_sl, OD.ev_sl1, OD.ev_sl2, OD.ev_sl3, OD.ev_on, OD.ev_os, OD.ev_os1, OD.ev_call, OD.ev_call1, OD.ev_asg, OD.ev_asg1, OD.ev_asgt, OD.ev_x, OD.ev_x1, OD.ev_r, OD.ev_r1, OD.ev_rn, OD.ev_skip, OD.ev_mseq, OD.ev_cont, OD.ev_break, OD.ev_ifs, OD.ev_ifst, OD.ev_ifsf, OD.ev_si, OD.ev_si1, OD.ev_si2, OD.ev_si3, OD.ev_si4, OD.ev_aug, OD.ev_aug0, OD.ev_aug1, OD.ev_aug2, OD.ev_fn, OD.ev_fnn, OD.ev_fnr, OD.ev_fnx, OD.ix_tup, OD.ix_lst, OD.ix_str, OD.at0, OD.at1, OD.at2, OD.at3, OD.len_tup, OD.len_scr, OD.len_lst, OD.int_int, OD.add_int, OD.add_tup, OD.sub_int, OD.eq_int, OD.eq_bl, OD.eq_str, OD.lt_int, OD.le_int, OD.gt_int, OD.ge_int, OD.mod_int, OD.div_int, OD.mul_int, OD.ev_wh, OD.ev_whf, OD.ev_wht, OD.ev_wen, OD.ev_wer, OD.ev_mst, OD.ev_mst1, OD.ev_msl, OD.ev_msl1, OD.ev_msl2, OD.ev_mscr, OD.ev_ent, OD.ev_ent1, OD.ev_zip, OD.ev_zip1, OD.ev_zip2, OD.ev_rg, OD.ev_lc, OD.ev_for, OD.ev_ext, OD.ev_ext1, List.getElem?_cons_zero, List.getElem?_cons_succ, List.set_cons_zero, List.set_cons_succ, List.replicate_succ, List.replicate_zero, List.map_cons, List.map_nil, List.length_cons, List.length_nil, List.cons_append, List.nil_append, List.append_nil, Nat.zero_add, Nat.reduceAdd, Nat.reduceSub, Nat.sub_self, ev_lst1 one, q]
    unfold ik
    rw [hi]
end K01
end

section
set_option Elab.async false
set_option linter.all false
set_option autoImplicit false
set_option maxRecDepth 100000
set_option maxHeartbeats 4000000
/-! the plain law of k01: _law_is, kinds, their texts -/
namespace K01
open PySem L2 OD
inductive Pl : Nat → U → Prop
  | int {n : Nat} (i : Int) : Pl n (.int i)
  | bl {n : Nat} (i : Bool) : Pl n (.bl i)
  | tup {n : Nat} {xs : List U} (h : xs.length ≤ 100000) (g : ∀ x, x ∈ xs → Pl n x) : Pl (n + 1) (.tup xs)
theorem ne_bl {S : Sto} {i j : Bool} : fNe (.bl i) (.bl j) S = some (.bl (!(i == j)), S) := rfl
theorem t2_int {S : Sto} {i : Int} : isTy2 .tup .lst ownN (.int i) S = some false := rfl
theorem t2_bl {S : Sto} {i : Bool} : isTy2 .tup .lst ownN (.bl i) S = some false := rfl
theorem t2_tup {S : Sto} {xs : List U} : isTy2 .tup .lst ownN (.tup xs) S = some true := rfl
theorem t2_lst {S : Sto} {j : Nat} {xs : List U} (h : S[j]? = some (.lst xs)) : isTy2 .tup .lst ownN (.ref j) S = some true := by simp only [isTy2, tyOf, h]; rfl
theorem t1_tup {S : Sto} {xs : List U} {own : Nat → Option Bool} : isTy1 .tup own (.tup xs) S = some true := rfl
theorem t1_tupl {S : Sto} {xs : List U} {own : Nat → Option Bool} : isTy1 .lst own (.tup xs) S = some false := rfl
theorem t1_lst {S : Sto} {j : Nat} {xs : List U} {own : Nat → Option Bool} (h : S[j]? = some (.lst xs)) : isTy1 .lst own (.ref j) S = some true := by simp only [isTy1, tyOf, h]; rfl
theorem t1_lstt {S : Sto} {j : Nat} {xs : List U} {own : Nat → Option Bool} (h : S[j]? = some (.lst xs)) : isTy1 .tup own (.ref j) S = some false := by simp only [isTy1, tyOf, h]; rfl
theorem t1_bl {S : Sto} {i : Bool} {own : Nat → Option Bool} : isTy1 .bl own (.bl i) S = some true := rfl
theorem t1_bli {S : Sto} {i : Int} {own : Nat → Option Bool} : isTy1 .bl own (.int i) S = some false := rfl
theorem bools_true : ∀ (xs : List U), boolsOf (xs.map fun _ => U.bl true) = some (xs.map fun _ => true)
  | [] => rfl
  | x :: xs => by
    show (boolsOf (xs.map fun _ => U.bl true)).map (true :: ·) = _
    rw [bools_true xs]
    rfl
theorem all_true {S : Sto} (xs : List U) : fAll (xs.map fun _ => U.bl true) S = some (.bl true, S) := by
  unfold fAll
  rw [bools_true]
  simp
theorem zip_self {xs : List U} {u : U} (h : u ∈ zipU xs xs) : ∃ x, x ∈ xs ∧ u = .tup [x, x] := by
  obtain ⟨i, hi⟩ := List.getElem?_of_mem h
  obtain ⟨a, b, h1, h2, rfl⟩ := zipU_get hi
  rw [h1] at h2
  cases h2
  exact ⟨a, List.mem_of_getElem? h1, rfl⟩
theorem is_items {k : Nat} {S : Sto} {xs : List U} {x : Src} {a b : U} (hx : ∀ S', App S S' → srcAt x S' = some (zipU xs xs)) (hl : xs.length ≤ 100000) (ih : ∀ x, x ∈ xs → ∀ S, ∃ S', d__law_is k [x, x] S = .ok (.bl true) S' ∧ App S S') :
    ∃ S', cLc (.tp [2, 3]) [2, 3] mYes (mCall 2 (d__law_is k) (mCons (mVar 2) (mCons (mVar 3) mNil))) [some a, some b, none, none] x S = .ok ((zipU xs xs).map fun _ => U.bl true) S' ∧ App S S' := by
  refine lc_app (r := fun _ => U.bl true) hx ?_ fun u hu => ?_
  · rw [zipU_len]
    have : (100000 : Nat) ≤ sizeLine := by decide
    omega
  · obtain ⟨y, hy, rfl⟩ := zip_self hu
    refine ⟨[some a, some b, some y, some y], rfl, fun S1 a1 => ?_⟩
    obtain ⟨S2, q, a2⟩ := ih y hy S1
    refine ⟨S2, ?_, a2⟩
    simp only [OD.ev_bind, OD.ev_bindx, OD.ev_st, OD.ev_stx, OD.ev_nox, OD.ev_seq, OD.ev_seqr, OD.ev_seqx, OD.ev_lift, OD.ev_var, OD.ev_var1, OD.ev_k, OD.ev_op, OD.ev_op1, OD.ev_op2, OD.ev_un, OD.ev_un1, OD.ev_nil, OD.ev_cons, OD.ev_cons1, OD.ev_cons2, OD.ev_tup, OD.ev_tup1, OD.ev_lst, OD.ev_lst1, OD.ev_b, OD.ev_bl, OD.ev_b1, OD.ev_new, OD.ev_new1, OD.ev_m, OD.ev_m1, OD.ev_m2, OD.ev_and, OD.ev_andt, OD.ev_andf, OD.ev_or, OD.ev_ort, OD.ev_orf, OD.ev_not, OD.ev_not1, OD.ev_if, OD.ev_ift, OD.ev_iff, OD.ev_asb, OD.ev_asb1, OD.ev_tand, OD.ev_tandt, OD.ev_tandf, OD.ev_tor, OD.ev_tort, OD.ev_torf, OD.ev_tnot, OD.ev_tnot1, OD.ev_tru, OD.ev_tru1, OD.ev_o, OD.ev_is, OD.ev_is1, OD.ev_is2, OD.ev_ch, OD.ev_ch1, OD.ev_ch2, OD.ev_ch3t, OD.ev_ch3f, OD.ev_ch4, OD.ev_sl, OD.ev_sl1, OD.ev_sl2, OD.ev_sl3, OD.ev_on, OD.ev_os, OD.ev_os1, OD.ev_call, OD.ev_call1, OD.ev_asg, OD.ev_asg1, OD.ev_asgt, OD.ev_x, OD.ev_x1, OD.ev_r, OD.ev_r1, OD.ev_rn, OD.ev_skip, OD.ev_mseq, OD.ev_cont, OD.ev_break, OD.ev_ifs, OD.ev_ifst, OD.ev_ifsf, OD.ev_si, OD.ev_si1, OD.ev_si2, OD.ev_si3, OD.ev_si4, OD.ev_aug, OD.ev_aug0, OD.ev_aug1, OD.ev_aug2, OD.ev_fn, OD.ev_fnn, OD.ev_fnr, OD.ev_fnx, OD.ix_tup, OD.ix_lst, OD.ix_str, OD.at0, OD.at1, OD.at2, OD.at3, OD.len_tup, OD.len_scr, OD.len_lst, OD.int_int, OD.add_int, OD.add_tup, OD.sub_int, OD.eq_int, OD.eq_bl, OD.eq_str, OD.lt_int, OD.le_int, OD.gt_int, OD.ge_int, OD.mod_int, OD.div_int, OD.mul_int, OD.ev_wh, OD.ev_whf, OD.ev_wht, OD.ev_wen, OD.ev_wer, OD.ev_mst, OD.ev_mst1, OD.ev_msl, OD.ev_msl1, OD.ev_msl2, OD.ev_mscr, OD.ev_ent, OD.ev_ent1, OD.ev_zip, OD.ev_zip1, OD.ev_zip2, OD.ev_rg, OD.ev_lc, OD.ev_for, OD.ev_ext, OD.ev_ext1, List.getElem?_cons_zero, List.getElem?_cons_succ, List.set_cons_zero, List.set_cons_succ, List.replicate_succ, List.replicate_zero, List.map_cons, List.map_nil, List.length_cons, List.length_nil, List.cons_append, List.nil_append, List.append_nil, Nat.zero_add, Nat.reduceAdd, Nat.reduceSub, Nat.sub_self, ev_call1 (us := [y, y]) (n := 2) rfl, q]
theorem is_ok : ∀ (n : Nat) (u : U), Pl n u → ∀ (m : Nat), n < m → ∀ S : Sto, ∃ S', d__law_is m [u, u] S = .ok (.bl true) S' ∧ App S S'
  | n, u, p, 0, hm, S => absurd hm (Nat.not_lt_zero n)
  | n, u, p, k + 1, hm, S => by
    show ∃ S', fnD 4 (b__law_is (d__law_is k)) [u, u] S = .ok (.bl true) S' ∧ App S S'
    cases p with
    | int i =>
      refine ⟨S, ?_, .refl⟩
      simp only [b__law_is, OD.ev_bind, OD.ev_bindx, OD.ev_st, OD.ev_stx, OD.ev_nox, OD.ev_seq, OD.ev_seqr, OD.ev_seqx, OD.ev_lift, OD.ev_var, OD.ev_var1, OD.ev_k, OD.ev_op, OD.ev_op1, OD.ev_op2, OD.ev_un, OD.ev_un1, OD.ev_nil, OD.ev_cons, OD.ev_cons1, OD.ev_cons2, OD.ev_tup, OD.ev_tup1, OD.ev_lst, OD.ev_lst1, OD.ev_b, OD.ev_bl, OD.ev_b1, OD.ev_new, OD.ev_new1, OD.ev_m, OD.ev_m1, OD.ev_m2, OD.ev_and, OD.ev_andt, OD.ev_andf, OD.ev_or, OD.ev_ort, OD.ev_orf, OD.ev_not, OD.ev_not1, OD.ev_if, OD.ev_ift, OD.ev_iff, OD.ev_asb, OD.ev_asb1, OD.ev_tand, OD.ev_tandt, OD.ev_tandf, OD.ev_tor, OD.ev_tort, OD.ev_torf, OD.ev_tnot, OD.ev_tnot1, OD.ev_tru, OD.ev_tru1, OD.ev_o, OD.ev_is, OD.ev_is1, OD.ev_is2, OD.ev_ch, OD.ev_ch1, OD.ev_ch2, OD.ev_ch3t, OD.ev_ch3f, OD.ev_ch4, OD.ev_sl, OD.ev_sl1, OD.ev_sl2, OD.ev_sl3, OD.ev_on, OD.ev_os, OD.ev_os1, OD.ev_call, OD.ev_call1, OD.ev_asg, OD.ev_asg1, OD.ev_asgt, OD.ev_x, OD.ev_x1, OD.ev_r, OD.ev_r1, OD.ev_rn, OD.ev_skip, OD.ev_mseq, OD.ev_cont, OD.ev_break, OD.ev_ifs, OD.ev_ifst, OD.ev_ifsf, OD.ev_si, OD.ev_si1, OD.ev_si2, OD.ev_si3, OD.ev_si4, OD.ev_aug, OD.ev_aug0, OD.ev_aug1, OD.ev_aug2, OD.ev_fn, OD.ev_fnn, OD.ev_fnr, OD.ev_fnx, OD.ix_tup, OD.ix_lst, OD.ix_str, OD.at0, OD.at1, OD.at2, OD.at3, OD.len_tup, OD.len_scr, OD.len_lst, OD.int_int, OD.add_int, OD.add_tup, OD.sub_int, OD.eq_int, OD.eq_bl, OD.eq_str, OD.lt_int, OD.le_int, OD.gt_int, OD.ge_int, OD.mod_int, OD.div_int, OD.mul_int, OD.ev_wh, OD.ev_whf, OD.ev_wht, OD.ev_wen, OD.ev_wer, OD.ev_mst, OD.ev_mst1, OD.ev_msl, OD.ev_msl1, OD.ev_msl2, OD.ev_mscr, OD.ev_ent, OD.ev_ent1, OD.ev_zip, OD.ev_zip1, OD.ev_zip2, OD.ev_rg, OD.ev_lc, OD.ev_for, OD.ev_ext, OD.ev_ext1, List.getElem?_cons_zero, List.getElem?_cons_succ, List.set_cons_zero, List.set_cons_succ, List.replicate_succ, List.replicate_zero, List.map_cons, List.map_nil, List.length_cons, List.length_nil, List.cons_append, List.nil_append, List.append_nil, Nat.zero_add, Nat.reduceAdd, Nat.reduceSub, Nat.sub_self, tru_bl, t2_int, t1_bli, beq_self_eq_true]
    | bl i =>
      refine ⟨S, ?_, .refl⟩
      simp only [b__law_is, OD.ev_bind, OD.ev_bindx, OD.ev_st, OD.ev_stx, OD.ev_nox, OD.ev_seq, OD.ev_seqr, OD.ev_seqx, OD.ev_lift, OD.ev_var, OD.ev_var1, OD.ev_k, OD.ev_op, OD.ev_op1, OD.ev_op2, OD.ev_un, OD.ev_un1, OD.ev_nil, OD.ev_cons, OD.ev_cons1, OD.ev_cons2, OD.ev_tup, OD.ev_tup1, OD.ev_lst, OD.ev_lst1, OD.ev_b, OD.ev_bl, OD.ev_b1, OD.ev_new, OD.ev_new1, OD.ev_m, OD.ev_m1, OD.ev_m2, OD.ev_and, OD.ev_andt, OD.ev_andf, OD.ev_or, OD.ev_ort, OD.ev_orf, OD.ev_not, OD.ev_not1, OD.ev_if, OD.ev_ift, OD.ev_iff, OD.ev_asb, OD.ev_asb1, OD.ev_tand, OD.ev_tandt, OD.ev_tandf, OD.ev_tor, OD.ev_tort, OD.ev_torf, OD.ev_tnot, OD.ev_tnot1, OD.ev_tru, OD.ev_tru1, OD.ev_o, OD.ev_is, OD.ev_is1, OD.ev_is2, OD.ev_ch, OD.ev_ch1, OD.ev_ch2, OD.ev_ch3t, OD.ev_ch3f, OD.ev_ch4, OD.ev_sl, OD.ev_sl1, OD.ev_sl2, OD.ev_sl3, OD.ev_on, OD.ev_os, OD.ev_os1, OD.ev_call, OD.ev_call1, OD.ev_asg, OD.ev_asg1, OD.ev_asgt, OD.ev_x, OD.ev_x1, OD.ev_r, OD.ev_r1, OD.ev_rn, OD.ev_skip, OD.ev_mseq, OD.ev_cont, OD.ev_break, OD.ev_ifs, OD.ev_ifst, OD.ev_ifsf, OD.ev_si, OD.ev_si1, OD.ev_si2, OD.ev_si3, OD.ev_si4, OD.ev_aug, OD.ev_aug0, OD.ev_aug1, OD.ev_aug2, OD.ev_fn, OD.ev_fnn, OD.ev_fnr, OD.ev_fnx, OD.ix_tup, OD.ix_lst, OD.ix_str, OD.at0, OD.at1, OD.at2, OD.at3, OD.len_tup, OD.len_scr, OD.len_lst, OD.int_int, OD.add_int, OD.add_tup, OD.sub_int, OD.eq_int, OD.eq_bl, OD.eq_str, OD.lt_int, OD.le_int, OD.gt_int, OD.ge_int, OD.mod_int, OD.div_int, OD.mul_int, OD.ev_wh, OD.ev_whf, OD.ev_wht, OD.ev_wen, OD.ev_wer, OD.ev_mst, OD.ev_mst1, OD.ev_msl, OD.ev_msl1, OD.ev_msl2, OD.ev_mscr, OD.ev_ent, OD.ev_ent1, OD.ev_zip, OD.ev_zip1, OD.ev_zip2, OD.ev_rg, OD.ev_lc, OD.ev_for, OD.ev_ext, OD.ev_ext1, List.getElem?_cons_zero, List.getElem?_cons_succ, List.set_cons_zero, List.set_cons_succ, List.replicate_succ, List.replicate_zero, List.map_cons, List.map_nil, List.length_cons, List.length_nil, List.cons_append, List.nil_append, List.append_nil, Nat.zero_add, Nat.reduceAdd, Nat.reduceSub, Nat.sub_self, tru_bl, t2_bl, t1_bl, beq_self_eq_true]
    | @tup n xs h g =>
      obtain ⟨S', q, a⟩ := is_items (k := k) (S := S) (xs := xs) (x := .its (zipU xs xs)) (a := .tup xs) (b := .tup xs) (fun _ _ => rfl) h fun x hx S => is_ok n x (g x hx) k (by omega) S
      refine ⟨S', ?_, a⟩
      simp only [b__law_is, OD.ev_bind, OD.ev_bindx, OD.ev_st, OD.ev_stx, OD.ev_nox, OD.ev_seq, OD.ev_seqr, OD.ev_seqx, OD.ev_lift, OD.ev_var, OD.ev_var1, OD.ev_k, OD.ev_op, OD.ev_op1, OD.ev_op2, OD.ev_un, OD.ev_un1, OD.ev_nil, OD.ev_cons, OD.ev_cons1, OD.ev_cons2, OD.ev_tup, OD.ev_tup1, OD.ev_lst, OD.ev_lst1, OD.ev_b, OD.ev_bl, OD.ev_b1, OD.ev_new, OD.ev_new1, OD.ev_m, OD.ev_m1, OD.ev_m2, OD.ev_and, OD.ev_andt, OD.ev_andf, OD.ev_or, OD.ev_ort, OD.ev_orf, OD.ev_not, OD.ev_not1, OD.ev_if, OD.ev_ift, OD.ev_iff, OD.ev_asb, OD.ev_asb1, OD.ev_tand, OD.ev_tandt, OD.ev_tandf, OD.ev_tor, OD.ev_tort, OD.ev_torf, OD.ev_tnot, OD.ev_tnot1, OD.ev_tru, OD.ev_tru1, OD.ev_o, OD.ev_is, OD.ev_is1, OD.ev_is2, OD.ev_ch, OD.ev_ch1, OD.ev_ch2, OD.ev_ch3t, OD.ev_ch3f, OD.ev_ch4, OD.ev_sl, OD.ev_sl1, OD.ev_sl2, OD.ev_sl3, OD.ev_on, OD.ev_os, OD.ev_os1, OD.ev_call, OD.ev_call1, OD.ev_asg, OD.ev_asg1, OD.ev_asgt, OD.ev_x, OD.ev_x1, OD.ev_r, OD.ev_r1, OD.ev_rn, OD.ev_skip, OD.ev_mseq, OD.ev_cont, OD.ev_break, OD.ev_ifs, OD.ev_ifst, OD.ev_ifsf, OD.ev_si, OD.ev_si1, OD.ev_si2, OD.ev_si3, OD.ev_si4, OD.ev_aug, OD.ev_aug0, OD.ev_aug1, OD.ev_aug2, OD.ev_fn, OD.ev_fnn, OD.ev_fnr, OD.ev_fnx, OD.ix_tup, OD.ix_lst, OD.ix_str, OD.at0, OD.at1, OD.at2, OD.at3, OD.len_tup, OD.len_scr, OD.len_lst, OD.int_int, OD.add_int, OD.add_tup, OD.sub_int, OD.eq_int, OD.eq_bl, OD.eq_str, OD.lt_int, OD.le_int, OD.gt_int, OD.ge_int, OD.mod_int, OD.div_int, OD.mul_int, OD.ev_wh, OD.ev_whf, OD.ev_wht, OD.ev_wen, OD.ev_wer, OD.ev_mst, OD.ev_mst1, OD.ev_msl, OD.ev_msl1, OD.ev_msl2, OD.ev_mscr, OD.ev_ent, OD.ev_ent1, OD.ev_zip, OD.ev_zip1, OD.ev_zip2, OD.ev_rg, OD.ev_lc, OD.ev_for, OD.ev_ext, OD.ev_ext1, List.getElem?_cons_zero, List.getElem?_cons_succ, List.set_cons_zero, List.set_cons_succ, List.replicate_succ, List.replicate_zero, List.map_cons, List.map_nil, List.length_cons, List.length_nil, List.cons_append, List.nil_append, List.append_nil, Nat.zero_add, Nat.reduceAdd, Nat.reduceSub, Nat.sub_self, tru_bl, t2_tup, t1_tup, t1_tupl, ne_bl, beq_self_eq_true, Bool.not_true, q, all_true]
theorem is_lst {n : Nat} {i j k : Nat} {S : Sto} {xs : List U} (h1 : S[i]? = some (.lst xs)) (h2 : S[j]? = some (.lst xs)) (hl : xs.length ≤ 100000) (g : ∀ x, x ∈ xs → Pl n x) (hk : n < k) : ∃ S', d__law_is (k + 1) [.ref i, .ref j] S = .ok (.bl true) S' ∧ App S S' := by
  show ∃ S', fnD 4 (b__law_is (d__law_is k)) [.ref i, .ref j] S = .ok (.bl true) S' ∧ App S S'
  obtain ⟨S', q, a⟩ := is_items (k := k) (S := S) (xs := xs) (x := .zip2 i j) (a := .ref i) (b := .ref j) (fun S' a => by
    unfold srcAt
    simp only [a.get h1, a.get h2]) hl fun x hx S => is_ok n x (g x hx) k hk S
  refine ⟨S', ?_, a⟩
  simp only [b__law_is, OD.ev_bind, OD.ev_bindx, OD.ev_st, OD.ev_stx, OD.ev_nox, OD.ev_seq, OD.ev_seqr, OD.ev_seqx, OD.ev_lift, OD.ev_var, OD.ev_var1, OD.ev_k, OD.ev_op, OD.ev_op1, OD.ev_op2, OD.ev_un, OD.ev_un1, OD.ev_nil, OD.ev_cons, OD.ev_cons1, OD.ev_cons2, OD.ev_tup, OD.ev_tup1, OD.ev_lst, OD.ev_lst1, OD.ev_b, OD.ev_bl, OD.ev_b1, OD.ev_new, OD.ev_new1, OD.ev_m, OD.ev_m1, OD.ev_m2, OD.ev_and, OD.ev_andt, OD.ev_andf, OD.ev_or, OD.ev_ort, OD.ev_orf, OD.ev_not, OD.ev_not1, OD.ev_if, OD.ev_ift, OD.ev_iff, OD.ev_asb, OD.ev_asb1, OD.ev_tand, OD.ev_tandt, OD.ev_tandf, OD.ev_tor, OD.ev_tort, OD.ev_torf, OD.ev_tnot, OD.ev_tnot1, OD.ev_tru, OD.ev_tru1, OD.ev_o, OD.ev_is, OD.ev_is1, OD.ev_is2, OD.ev_ch, OD.ev_ch1, OD.ev_ch2, OD.ev_ch3t, OD.ev_ch3f, OD.ev_ch4, OD.ev_sl, OD.ev_sl1, OD.ev_sl2, OD.ev_sl3, OD.ev_on, OD.ev_os, OD.ev_os1, OD.ev_call, OD.ev_call1, OD.ev_asg, OD.ev_asg1, OD.ev_asgt, OD.ev_x, OD.ev_x1, OD.ev_r, OD.ev_r1, OD.ev_rn, OD.ev_skip, OD.ev_mseq, OD.ev_cont, OD.ev_break, OD.ev_ifs, OD.ev_ifst, OD.ev_ifsf, OD.ev_si, OD.ev_si1, OD.ev_si2, OD.ev_si3, OD.ev_si4, OD.ev_aug, OD.ev_aug0, OD.ev_aug1, OD.ev_aug2, OD.ev_fn, OD.ev_fnn, OD.ev_fnr, OD.ev_fnx, OD.ix_tup, OD.ix_lst, OD.ix_str, OD.at0, OD.at1, OD.at2, OD.at3, OD.len_tup, OD.len_scr, OD.len_lst, OD.int_int, OD.add_int, OD.add_tup, OD.sub_int, OD.eq_int, OD.eq_bl, OD.eq_str, OD.lt_int, OD.le_int, OD.gt_int, OD.ge_int, OD.mod_int, OD.div_int, OD.mul_int, OD.ev_wh, OD.ev_whf, OD.ev_wht, OD.ev_wen, OD.ev_wer, OD.ev_mst, OD.ev_mst1, OD.ev_msl, OD.ev_msl1, OD.ev_msl2, OD.ev_mscr, OD.ev_ent, OD.ev_ent1, OD.ev_zip, OD.ev_zip1, OD.ev_zip2, OD.ev_rg, OD.ev_lc, OD.ev_for, OD.ev_ext, OD.ev_ext1, List.getElem?_cons_zero, List.getElem?_cons_succ, List.set_cons_zero, List.set_cons_succ, List.replicate_succ, List.replicate_zero, List.map_cons, List.map_nil, List.length_cons, List.length_nil, List.cons_append, List.nil_append, List.append_nil, Nat.zero_add, Nat.reduceAdd, Nat.reduceSub, Nat.sub_self, tru_bl, t2_lst h2, t1_lst h1, t1_lst h2, t1_lstt h1, t1_lstt h2, ne_bl, beq_self_eq_true, Bool.not_true, len_lst h1, len_lst h2, ev_zip2 h1 h2, q, all_true]
end K01
end

section
set_option Elab.async false
set_option linter.all false
set_option autoImplicit false
set_option maxRecDepth 100000
set_option maxHeartbeats 4000000
/-! the plain law of k01: kinds, their texts -/
namespace K01
open PySem L2 OD
/-- a kind of depth n -/
inductive Kd : Nat → U → Prop
  | mk {n : Nat} {i : Int} {xs : List U} (hi : i = 0 ∨ i = 1) (hl : xs.length ≤ 3) (h : ∀ x, x ∈ xs → Kd n x) : Kd (n + 1) (.tup [.int i, .tup xs])
theorem Kd.up : ∀ {n : Nat} {u : U}, Kd n u → Kd (n + 1) u
  | _, _, .mk hi hl h => .mk hi hl fun x hx => (h x hx).up
theorem kd_of_ik : ∀ (n : Nat) (ws : List U) (c : Int), ikGo n ws c = true → ∀ w, w ∈ ws → Kd n w
  | 0, ws, c, h, w, hw => by cases h
  | n + 1, ws, c, h, w, hw => by
    rcases list_last (ws := ws) with rfl | ⟨v, x, rfl⟩
    · cases hw
    · rw [ik_cons] at h
      split at h
      · cases h
      · split at h
        · rename_i hh
          cases hs : subs x with
          | none => rw [hs] at h; cases h
          | some xs =>
            rw [hs] at h
            have ih := kd_of_ik n (v ++ xs) (c + 1) h
            rcases List.mem_append.mp hw with q | q
            · exact (ih w (List.mem_append.mpr (.inl q))).up
            · rw [List.mem_singleton.mp q]
              unfold subs at hs
              split at hs
              · rename_i a ys
                split at hs
                · rename_i hl
                  cases hs
                  unfold hdOk at hh
                  split at hh
                  · rename_i i b e
                    cases e
                    simp only [Bool.and_eq_true, decide_eq_true_eq] at hh
                    exact .mk (by omega) hl fun y hy => ih y (List.mem_append.mpr (.inr hy))
                  · cases hh
                · cases hs
              · cases hs
        · cases h
theorem kd_ik {u : U} (h : ik u = true) : Kd 8 u := kd_of_ik 8 [u] 0 h u (by simp)
theorem Kd.pl : ∀ {n : Nat} {u : U}, Kd n u → Pl (2 * n) u
  | _, _, .mk (n := n) hi hl h => .tup (n := 2 * n + 1) (by simp) fun x hx => by
    rcases List.mem_cons.mp hx with rfl | hx
    · exact .int _
    · rw [List.mem_singleton.mp hx]
      exact .tup (n := 2 * n) (by omega) fun y hy => (h y hy).pl
/-! ### check_kind, counter -/
theorem is_kind_ok {L : Nat} {S : Sto} {u : U} (g : Gd L S u) : ∃ S', d_is_kind [u] S = .ok (.bl (ik u)) S' ∧ App S S' := by
  obtain ⟨S', q, a⟩ := kt_ok g
  refine ⟨S', ?_, a⟩
  unfold d_is_kind b_is_kind
  simp only [OD.ev_bind, OD.ev_bindx, OD.ev_st, OD.ev_stx, OD.ev_nox, OD.ev_seq, OD.ev_seqr, OD.ev_seqx, OD.ev_lift, OD.ev_var, OD.ev_var1, OD.ev_k, OD.ev_op, OD.ev_op1, OD.ev_op2, OD.ev_un, OD.ev_un1, OD.ev_nil, OD.ev_cons, OD.ev_cons1, OD.ev_cons2, OD.ev_tup, OD.ev_tup1, OD.ev_lst, OD.ev_lst1, OD.ev_b, OD.ev_bl, OD.ev_b1, OD.ev_new, OD.ev_new1, OD.ev_m, OD.ev_m1, OD.ev_m2, OD.ev_and, OD.ev_andt, OD.ev_andf, OD.ev_or, OD.ev_ort, OD.ev_orf, OD.ev_not, OD.ev_not1, OD.ev_if, OD.ev_ift, OD.ev_iff, OD.ev_asb, OD.ev_asb1, OD.ev_tand, OD.ev_tandt, OD.ev_tandf, OD.ev_tor, OD.ev_tort, OD.ev_torf, OD.ev_tnot, OD.ev_tnot1, OD.ev_tru, OD.ev_tru1, OD.ev_o, OD.ev_is, OD.ev_is1, OD.ev_is2, OD.ev_ch, OD.ev_ch1, OD.ev_ch2, OD.ev_ch3t, OD.ev_ch3f, OD.ev_ch4, OD.ev_sl, OD.ev_sl1, OD.ev_sl2, OD.ev_sl3, OD.ev_on, OD.ev_os, OD.ev_os1, OD.ev_call, OD.ev_call1, OD.ev_asg, OD.ev_asg1, OD.ev_asgt, OD.ev_x, OD.ev_x1, OD.ev_r, OD.ev_r1, OD.ev_rn, OD.ev_skip, OD.ev_mseq, OD.ev_cont, OD.ev_break, OD.ev_ifs, OD.ev_ifst, OD.ev_ifsf, OD.ev_si, OD.ev_si1, OD.ev_si2, OD.ev_si3, OD.ev_si4, OD.ev_aug, OD.ev_aug0, OD.ev_aug1, OD.ev_aug2, OD.ev_fn, OD.ev_fnn, OD.ev_fnr, OD.ev_fnx, OD.ix_tup, OD.ix_lst, OD.ix_str, OD.at0, OD.at1, OD.at2, OD.at3, OD.len_tup, OD.len_scr, OD.len_lst, OD.int_int, OD.add_int, OD.add_tup, OD.sub_int, OD.eq_int, OD.eq_bl, OD.eq_str, OD.lt_int, OD.le_int, OD.gt_int, OD.ge_int, OD.mod_int, OD.div_int, OD.mul_int, OD.ev_wh, OD.ev_whf, OD.ev_wht, OD.ev_wen, OD.ev_wer, OD.ev_mst, OD.ev_mst1, OD.ev_msl, OD.ev_msl1, OD.ev_msl2, OD.ev_mscr, OD.ev_ent, OD.ev_ent1, OD.ev_zip, OD.ev_zip1, OD.ev_zip2, OD.ev_rg, OD.ev_lc, OD.ev_for, OD.ev_ext, OD.ev_ext1, List.getElem?_cons_zero, List.getElem?_cons_succ, List.set_cons_zero, List.set_cons_succ, List.replicate_succ, List.replicate_zero, List.map_cons, List.map_nil, List.length_cons, List.length_nil, List.cons_append, List.nil_append, List.append_nil, Nat.zero_add, Nat.reduceAdd, Nat.reduceSub, Nat.sub_self, ev_call1 (us := [u]) (n := 1) rfl, q]
theorem raise_ev {c : Nat} {e : OD.Env} {S : Sto} : mRaise0 c e S = .ex c none e S := rfl
theorem check_ok {L : Nat} {S : Sto} {u : U} (g : Gd L S u) (h : ik u = true) : ∃ S', d_check_kind [u] S = .ok .non S' ∧ App S S' := by
  obtain ⟨S', q, a⟩ := kt_ok g
  refine ⟨S', ?_, a⟩
  unfold d_check_kind b_check_kind
  simp only [OD.ev_bind, OD.ev_bindx, OD.ev_st, OD.ev_stx, OD.ev_nox, OD.ev_seq, OD.ev_seqr, OD.ev_seqx, OD.ev_lift, OD.ev_var, OD.ev_var1, OD.ev_k, OD.ev_op, OD.ev_op1, OD.ev_op2, OD.ev_un, OD.ev_un1, OD.ev_nil, OD.ev_cons, OD.ev_cons1, OD.ev_cons2, OD.ev_tup, OD.ev_tup1, OD.ev_lst, OD.ev_lst1, OD.ev_b, OD.ev_bl, OD.ev_b1, OD.ev_new, OD.ev_new1, OD.ev_m, OD.ev_m1, OD.ev_m2, OD.ev_and, OD.ev_andt, OD.ev_andf, OD.ev_or, OD.ev_ort, OD.ev_orf, OD.ev_not, OD.ev_not1, OD.ev_if, OD.ev_ift, OD.ev_iff, OD.ev_asb, OD.ev_asb1, OD.ev_tand, OD.ev_tandt, OD.ev_tandf, OD.ev_tor, OD.ev_tort, OD.ev_torf, OD.ev_tnot, OD.ev_tnot1, OD.ev_tru, OD.ev_tru1, OD.ev_o, OD.ev_is, OD.ev_is1, OD.ev_is2, OD.ev_ch, OD.ev_ch1, OD.ev_ch2, OD.ev_ch3t, OD.ev_ch3f, OD.ev_ch4, OD.ev_sl, OD.ev_sl1, OD.ev_sl2, OD.ev_sl3, OD.ev_on, OD.ev_os, OD.ev_os1, OD.ev_call, OD.ev_call1, OD.ev_asg, OD.ev_asg1, OD.ev_asgt, OD.ev_x, OD.ev_x1, OD.ev_r, OD.ev_r1, OD.ev_rn, OD.ev_skip, OD.ev_mseq, OD.ev_cont, OD.ev_break, OD.ev_ifs, OD.ev_ifst, OD.ev_ifsf, OD.ev_si, OD.ev_si1, OD.ev_si2, OD.ev_si3, OD.ev_si4, OD.ev_aug, OD.ev_aug0, OD.ev_aug1, OD.ev_aug2, OD.ev_fn, OD.ev_fnn, OD.ev_fnr, OD.ev_fnx, OD.ix_tup, OD.ix_lst, OD.ix_str, OD.at0, OD.at1, OD.at2, OD.at3, OD.len_tup, OD.len_scr, OD.len_lst, OD.int_int, OD.add_int, OD.add_tup, OD.sub_int, OD.eq_int, OD.eq_bl, OD.eq_str, OD.lt_int, OD.le_int, OD.gt_int, OD.ge_int, OD.mod_int, OD.div_int, OD.mul_int, OD.ev_wh, OD.ev_whf, OD.ev_wht, OD.ev_wen, OD.ev_wer, OD.ev_mst, OD.ev_mst1, OD.ev_msl, OD.ev_msl1, OD.ev_msl2, OD.ev_mscr, OD.ev_ent, OD.ev_ent1, OD.ev_zip, OD.ev_zip1, OD.ev_zip2, OD.ev_rg, OD.ev_lc, OD.ev_for, OD.ev_ext, OD.ev_ext1, List.getElem?_cons_zero, List.getElem?_cons_succ, List.set_cons_zero, List.set_cons_succ, List.replicate_succ, List.replicate_zero, List.map_cons, List.map_nil, List.length_cons, List.length_nil, List.cons_append, List.nil_append, List.append_nil, Nat.zero_add, Nat.reduceAdd, Nat.reduceSub, Nat.sub_self, ev_call1 (us := [u]) (n := 1) rfl, q, h, tru_bl, Bool.not_true]
theorem check_no {L : Nat} {S : Sto} {u : U} (g : Gd L S u) (h : ik u = false) : ∃ S', d_check_kind [u] S = .ex 42 none S' ∧ App S S' := by
  obtain ⟨S', q, a⟩ := kt_ok g
  refine ⟨S', ?_, a⟩
  unfold d_check_kind b_check_kind
  simp only [OD.ev_bind, OD.ev_bindx, OD.ev_st, OD.ev_stx, OD.ev_nox, OD.ev_seq, OD.ev_seqr, OD.ev_seqx, OD.ev_lift, OD.ev_var, OD.ev_var1, OD.ev_k, OD.ev_op, OD.ev_op1, OD.ev_op2, OD.ev_un, OD.ev_un1, OD.ev_nil, OD.ev_cons, OD.ev_cons1, OD.ev_cons2, OD.ev_tup, OD.ev_tup1, OD.ev_lst, OD.ev_lst1, OD.ev_b, OD.ev_bl, OD.ev_b1, OD.ev_new, OD.ev_new1, OD.ev_m, OD.ev_m1, OD.ev_m2, OD.ev_and, OD.ev_andt, OD.ev_andf, OD.ev_or, OD.ev_ort, OD.ev_orf, OD.ev_not, OD.ev_not1, OD.ev_if, OD.ev_ift, OD.ev_iff, OD.ev_asb, OD.ev_asb1, OD.ev_tand, OD.ev_tandt, OD.ev_tandf, OD.ev_tor, OD.ev_tort, OD.ev_torf, OD.ev_tnot, OD.ev_tnot1, OD.ev_tru, OD.ev_tru1, OD.ev_o, OD.ev_is, OD.ev_is1, OD.ev_is2, OD.ev_ch, OD.ev_ch1, OD.ev_ch2, OD.ev_ch3t, OD.ev_ch3f, OD.ev_ch4, OD.ev_sl, OD.ev_sl1, OD.ev_sl2, OD.ev_sl3, OD.ev_on, OD.ev_os, OD.ev_os1, OD.ev_call, OD.ev_call1, OD.ev_asg, OD.ev_asg1, OD.ev_asgt, OD.ev_x, OD.ev_x1, OD.ev_r, OD.ev_r1, OD.ev_rn, OD.ev_skip, OD.ev_mseq, OD.ev_cont, OD.ev_break, OD.ev_ifs, OD.ev_ifst, OD.ev_ifsf, OD.ev_si, OD.ev_si1, OD.ev_si2, OD.ev_si3, OD.ev_si4, OD.ev_aug, OD.ev_aug0, OD.ev_aug1, OD.ev_aug2, OD.ev_fn, OD.ev_fnn, OD.ev_fnr, OD.ev_fnx, OD.ix_tup, OD.ix_lst, OD.ix_str, OD.at0, OD.at1, OD.at2, OD.at3, OD.len_tup, OD.len_scr, OD.len_lst, OD.int_int, OD.add_int, OD.add_tup, OD.sub_int, OD.eq_int, OD.eq_bl, OD.eq_str, OD.lt_int, OD.le_int, OD.gt_int, OD.ge_int, OD.mod_int, OD.div_int, OD.mul_int, OD.ev_wh, OD.ev_whf, OD.ev_wht, OD.ev_wen, OD.ev_wer, OD.ev_mst, OD.ev_mst1, OD.ev_msl, OD.ev_msl1, OD.ev_msl2, OD.ev_mscr, OD.ev_ent, OD.ev_ent1, OD.ev_zip, OD.ev_zip1, OD.ev_zip2, OD.ev_rg, OD.ev_lc, OD.ev_for, OD.ev_ext, OD.ev_ext1, List.getElem?_cons_zero, List.getElem?_cons_succ, List.set_cons_zero, List.set_cons_succ, List.replicate_succ, List.replicate_zero, List.map_cons, List.map_nil, List.length_cons, List.length_nil, List.cons_append, List.nil_append, List.append_nil, Nat.zero_add, Nat.reduceAdd, Nat.reduceSub, Nat.sub_self, ev_call1 (us := [u]) (n := 1) rfl, q, h, tru_bl, Bool.not_false, raise_ev]
theorem counter_no {L : Nat} {S : Sto} {u : U} (g : Gd L S u) (h : ik u = false) : ∃ S', d_counter [u] S = .ex 42 none S' ∧ App S S' := by
  obtain ⟨S', q, a⟩ := check_no g h
  refine ⟨S', ?_, a⟩
  unfold d_counter b_counter
  simp only [OD.ev_bind, OD.ev_bindx, OD.ev_st, OD.ev_stx, OD.ev_nox, OD.ev_seq, OD.ev_seqr, OD.ev_seqx, OD.ev_lift, OD.ev_var, OD.ev_var1, OD.ev_k, OD.ev_op, OD.ev_op1, OD.ev_op2, OD.ev_un, OD.ev_un1, OD.ev_nil, OD.ev_cons, OD.ev_cons1, OD.ev_cons2, OD.ev_tup, OD.ev_tup1, OD.ev_lst, OD.ev_lst1, OD.ev_b, OD.ev_bl, OD.ev_b1, OD.ev_new, OD.ev_new1, OD.ev_m, OD.ev_m1, OD.ev_m2, OD.ev_and, OD.ev_andt, OD.ev_andf, OD.ev_or, OD.ev_ort, OD.ev_orf, OD.ev_not, OD.ev_not1, OD.ev_if, OD.ev_ift, OD.ev_iff, OD.ev_asb, OD.ev_asb1, OD.ev_tand, OD.ev_tandt, OD.ev_tandf, OD.ev_tor, OD.ev_tort, OD.ev_torf, OD.ev_tnot, OD.ev_tnot1, OD.ev_tru, OD.ev_tru1, OD.ev_o, OD.ev_is, OD.ev_is1, OD.ev_is2, OD.ev_ch, OD.ev_ch1, OD.ev_ch2, OD.ev_ch3t, OD.ev_ch3f, OD.ev_ch4, OD.ev_sl, OD.ev_sl1, OD.ev_sl2, OD.ev_sl3, OD.ev_on, OD.ev_os, OD.ev_os1, OD.ev_call, OD.ev_call1, OD.ev_asg, OD.ev_asg1, OD.ev_asgt, OD.ev_x, OD.ev_x1, OD.ev_r, OD.ev_r1, OD.ev_rn, OD.ev_skip, OD.ev_mseq, OD.ev_cont, OD.ev_break, OD.ev_ifs, OD.ev_ifst, OD.ev_ifsf, OD.ev_si, OD.ev_si1, OD.ev_si2, OD.ev_si3, OD.ev_si4, OD.ev_aug, OD.ev_aug0, OD.ev_aug1, OD.ev_aug2, OD.ev_fn, OD.ev_fnn, OD.ev_fnr, OD.ev_fnx, OD.ix_tup, OD.ix_lst, OD.ix_str, OD.at0, OD.at1, OD.at2, OD.at3, OD.len_tup, OD.len_scr, OD.len_lst, OD.int_int, OD.add_int, OD.add_tup, OD.sub_int, OD.eq_int, OD.eq_bl, OD.eq_str, OD.lt_int, OD.le_int, OD.gt_int, OD.ge_int, OD.mod_int, OD.div_int, OD.mul_int, OD.ev_wh, OD.ev_whf, OD.ev_wht, OD.ev_wen, OD.ev_wer, OD.ev_mst, OD.ev_mst1, OD.ev_msl, OD.ev_msl1, OD.ev_msl2, OD.ev_mscr, OD.ev_ent, OD.ev_ent1, OD.ev_zip, OD.ev_zip1, OD.ev_zip2, OD.ev_rg, OD.ev_lc, OD.ev_for, OD.ev_ext, OD.ev_ext1, List.getElem?_cons_zero, List.getElem?_cons_succ, List.set_cons_zero, List.set_cons_succ, List.replicate_succ, List.replicate_zero, List.map_cons, List.map_nil, List.length_cons, List.length_nil, List.cons_append, List.nil_append, List.append_nil, Nat.zero_add, Nat.reduceAdd, Nat.reduceSub, Nat.sub_self, ev_call1 (us := [u]) (n := 1) rfl, q]
theorem knots_no {L : Nat} {S : Sto} {u : U} (g : Gd L S u) (h : ik u = false) : ∃ S', d_knots [u] S = .ex 42 none S' ∧ App S S' := by
  obtain ⟨S', q, a⟩ := check_no g h
  refine ⟨S', ?_, a⟩
  unfold d_knots b_knots
  simp only [OD.ev_bind, OD.ev_bindx, OD.ev_st, OD.ev_stx, OD.ev_nox, OD.ev_seq, OD.ev_seqr, OD.ev_seqx, OD.ev_lift, OD.ev_var, OD.ev_var1, OD.ev_k, OD.ev_op, OD.ev_op1, OD.ev_op2, OD.ev_un, OD.ev_un1, OD.ev_nil, OD.ev_cons, OD.ev_cons1, OD.ev_cons2, OD.ev_tup, OD.ev_tup1, OD.ev_lst, OD.ev_lst1, OD.ev_b, OD.ev_bl, OD.ev_b1, OD.ev_new, OD.ev_new1, OD.ev_m, OD.ev_m1, OD.ev_m2, OD.ev_and, OD.ev_andt, OD.ev_andf, OD.ev_or, OD.ev_ort, OD.ev_orf, OD.ev_not, OD.ev_not1, OD.ev_if, OD.ev_ift, OD.ev_iff, OD.ev_asb, OD.ev_asb1, OD.ev_tand, OD.ev_tandt, OD.ev_tandf, OD.ev_tor, OD.ev_tort, OD.ev_torf, OD.ev_tnot, OD.ev_tnot1, OD.ev_tru, OD.ev_tru1, OD.ev_o, OD.ev_is, OD.ev_is1, OD.ev_is2, OD.ev_ch, OD.ev_ch1, OD.ev_ch2, OD.ev_ch3t, OD.ev_ch3f, OD.ev_ch4, OD.ev_sl, OD.ev_sl1, OD.ev_sl2, OD.ev_sl3, OD.ev_on, OD.ev_os, OD.ev_os1, OD.ev_call, OD.ev_call1, OD.ev_asg, OD.ev_asg1, OD.ev_asgt, OD.ev_x, OD.ev_x1, OD.ev_r, OD.ev_r1, OD.ev_rn, OD.ev_skip, OD.ev_mseq, OD.ev_cont, OD.ev_break, OD.ev_ifs, OD.ev_ifst, OD.ev_ifsf, OD.ev_si, OD.ev_si1, OD.ev_si2, OD.ev_si3, OD.ev_si4, OD.ev_aug, OD.ev_aug0, OD.ev_aug1, OD.ev_aug2, OD.ev_fn, OD.ev_fnn, OD.ev_fnr, OD.ev_fnx, OD.ix_tup, OD.ix_lst, OD.ix_str, OD.at0, OD.at1, OD.at2, OD.at3, OD.len_tup, OD.len_scr, OD.len_lst, OD.int_int, OD.add_int, OD.add_tup, OD.sub_int, OD.eq_int, OD.eq_bl, OD.eq_str, OD.lt_int, OD.le_int, OD.gt_int, OD.ge_int, OD.mod_int, OD.div_int, OD.mul_int, OD.ev_wh, OD.ev_whf, OD.ev_wht, OD.ev_wen, OD.ev_wer, OD.ev_mst, OD.ev_mst1, OD.ev_msl, OD.ev_msl1, OD.ev_msl2, OD.ev_mscr, OD.ev_ent, OD.ev_ent1, OD.ev_zip, OD.ev_zip1, OD.ev_zip2, OD.ev_rg, OD.ev_lc, OD.ev_for, OD.ev_ext, OD.ev_ext1, List.getElem?_cons_zero, List.getElem?_cons_succ, List.set_cons_zero, List.set_cons_succ, List.replicate_succ, List.replicate_zero, List.map_cons, List.map_nil, List.length_cons, List.length_nil, List.cons_append, List.nil_append, List.append_nil, Nat.zero_add, Nat.reduceAdd, Nat.reduceSub, Nat.sub_self, ev_call1 (us := [u]) (n := 1) rfl, q]
theorem text_no {L : Nat} {S : Sto} {u : U} (g : Gd L S u) (h : ik u = false) : ∃ S', d_kind_text [u] S = .ex 42 none S' ∧ App S S' := by
  obtain ⟨S', q, a⟩ := check_no g h
  refine ⟨S', ?_, a⟩
  unfold d_kind_text b_kind_text
  simp only [OD.ev_bind, OD.ev_bindx, OD.ev_st, OD.ev_stx, OD.ev_nox, OD.ev_seq, OD.ev_seqr, OD.ev_seqx, OD.ev_lift, OD.ev_var, OD.ev_var1, OD.ev_k, OD.ev_op, OD.ev_op1, OD.ev_op2, OD.ev_un, OD.ev_un1, OD.ev_nil, OD.ev_cons, OD.ev_cons1, OD.ev_cons2, OD.ev_tup, OD.ev_tup1, OD.ev_lst, OD.ev_lst1, OD.ev_b, OD.ev_bl, OD.ev_b1, OD.ev_new, OD.ev_new1, OD.ev_m, OD.ev_m1, OD.ev_m2, OD.ev_and, OD.ev_andt, OD.ev_andf, OD.ev_or, OD.ev_ort, OD.ev_orf, OD.ev_not, OD.ev_not1, OD.ev_if, OD.ev_ift, OD.ev_iff, OD.ev_asb, OD.ev_asb1, OD.ev_tand, OD.ev_tandt, OD.ev_tandf, OD.ev_tor, OD.ev_tort, OD.ev_torf, OD.ev_tnot, OD.ev_tnot1, OD.ev_tru, OD.ev_tru1, OD.ev_o, OD.ev_is, OD.ev_is1, OD.ev_is2, OD.ev_ch, OD.ev_ch1, OD.ev_ch2, OD.ev_ch3t, OD.ev_ch3f, OD.ev_ch4, OD.ev_sl, OD.ev_sl1, OD.ev_sl2, OD.ev_sl3, OD.ev_on, OD.ev_os, OD.ev_os1, OD.ev_call, OD.ev_call1, OD.ev_asg, OD.ev_asg1, OD.ev_asgt, OD.ev_x, OD.ev_x1, OD.ev_r, OD.ev_r1, OD.ev_rn, OD.ev_skip, OD.ev_mseq, OD.ev_cont, OD.ev_break, OD.ev_ifs, OD.ev_ifst, OD.ev_ifsf, OD.ev_si, OD.ev_si1, OD.ev_si2, OD.ev_si3, OD.ev_si4, OD.ev_aug, OD.ev_aug0, OD.ev_aug1, OD.ev_aug2, OD.ev_fn, OD.ev_fnn, OD.ev_fnr, OD.ev_fnx, OD.ix_tup, OD.ix_lst, OD.ix_str, OD.at0, OD.at1, OD.at2, OD.at3, OD.len_tup, OD.len_scr, OD.len_lst, OD.int_int, OD.add_int, OD.add_tup, OD.sub_int, OD.eq_int, OD.eq_bl, OD.eq_str, OD.lt_int, OD.le_int, OD.gt_int, OD.ge_int, OD.mod_int, OD.div_int, OD.mul_int, OD.ev_wh, OD.ev_whf, OD.ev_wht, OD.ev_wen, OD.ev_wer, OD.ev_mst, OD.ev_mst1, OD.ev_msl, OD.ev_msl1, OD.ev_msl2, OD.ev_mscr, OD.ev_ent, OD.ev_ent1, OD.ev_zip, OD.ev_zip1, OD.ev_zip2, OD.ev_rg, OD.ev_lc, OD.ev_for, OD.ev_ext, OD.ev_ext1, List.getElem?_cons_zero, List.getElem?_cons_succ, List.set_cons_zero, List.set_cons_succ, List.replicate_succ, List.replicate_zero, List.map_cons, List.map_nil, List.length_cons, List.length_nil, List.cons_append, List.nil_append, List.append_nil, Nat.zero_add, Nat.reduceAdd, Nat.reduceSub, Nat.sub_self, ev_call1 (us := [u]) (n := 1) rfl, q]
theorem two_line : ∀ {a b : U}, ([a, b] : List U).length ≤ sizeLine := fun {a b} => by
  show 2 ≤ sizeLine
  decide
theorem counter_of_ok {S : Sto} {i : Int} {xs : List U} : d_counter_of [.tup [.int i, .tup xs]] S = .ok (.tup [.int (1 - i), .tup xs]) S := by
  unfold d_counter_of b_counter_of
  simp only [OD.ev_bind, OD.ev_bindx, OD.ev_st, OD.ev_stx, OD.ev_nox, OD.ev_seq, OD.ev_seqr, OD.ev_seqx, OD.ev_lift, OD.ev_var, OD.ev_var1, OD.ev_k, OD.ev_op, OD.ev_op1, OD.ev_op2, OD.ev_un, OD.ev_un1, OD.ev_nil, OD.ev_cons, OD.ev_cons1, OD.ev_cons2, OD.ev_tup, OD.ev_tup1, OD.ev_lst, OD.ev_lst1, OD.ev_b, OD.ev_bl, OD.ev_b1, OD.ev_new, OD.ev_new1, OD.ev_m, OD.ev_m1, OD.ev_m2, OD.ev_and, OD.ev_andt, OD.ev_andf, OD.ev_or, OD.ev_ort, OD.ev_orf, OD.ev_not, OD.ev_not1, OD.ev_if, OD.ev_ift, OD.ev_iff, OD.ev_asb, OD.ev_asb1, OD.ev_tand, OD.ev_tandt, OD.ev_tandf, OD.ev_tor, OD.ev_tort, OD.ev_torf, OD.ev_tnot, OD.ev_tnot1, OD.ev_tru, OD.ev_tru1, OD.ev_o, OD.ev_is, OD.ev_is1, OD.ev_is2, OD.ev_ch, OD.ev_ch1, OD.ev_ch2, OD.ev_ch3t, OD.ev_ch3f, OD.ev_ch4, OD.ev_sl, OD.ev_sl1, OD.ev_sl2, OD.ev_sl3, OD.ev_on, OD.ev_os, OD.ev_os1, OD.ev_call, OD.ev_call1, OD.ev_asg, OD.ev_asg1, OD.ev_asgt, OD.ev_x, OD.ev_x1, OD.ev_r, OD.ev_r1, OD.ev_rn, OD.ev_skip, OD.ev_mseq, OD.ev_cont, OD.ev_break, OD.ev_ifs, OD.ev_ifst, OD.ev_ifsf, OD.ev_si, OD.ev_si1, OD.ev_si2, OD.ev_si3, OD.ev_si4, OD.ev_aug, OD.ev_aug0, OD.ev_aug1, OD.ev_aug2, OD.ev_fn, OD.ev_fnn, OD.ev_fnr, OD.ev_fnx, OD.ix_tup, OD.ix_lst, OD.ix_str, OD.at0, OD.at1, OD.at2, OD.at3, OD.len_tup, OD.len_scr, OD.len_lst, OD.int_int, OD.add_int, OD.add_tup, OD.sub_int, OD.eq_int, OD.eq_bl, OD.eq_str, OD.lt_int, OD.le_int, OD.gt_int, OD.ge_int, OD.mod_int, OD.div_int, OD.mul_int, OD.ev_wh, OD.ev_whf, OD.ev_wht, OD.ev_wen, OD.ev_wer, OD.ev_mst, OD.ev_mst1, OD.ev_msl, OD.ev_msl1, OD.ev_msl2, OD.ev_mscr, OD.ev_ent, OD.ev_ent1, OD.ev_zip, OD.ev_zip1, OD.ev_zip2, OD.ev_rg, OD.ev_lc, OD.ev_for, OD.ev_ext, OD.ev_ext1, List.getElem?_cons_zero, List.getElem?_cons_succ, List.set_cons_zero, List.set_cons_succ, List.replicate_succ, List.replicate_zero, List.map_cons, List.map_nil, List.length_cons, List.length_nil, List.cons_append, List.nil_append, List.append_nil, Nat.zero_add, Nat.reduceAdd, Nat.reduceSub, Nat.sub_self, OD.ix_tup at0, OD.ix_tup at1, ev_tup1 two_line]
theorem counter_ok {L : Nat} {S : Sto} {i : Int} {xs : List U} (g : Gd L S (.tup [.int i, .tup xs])) (h : ik (.tup [.int i, .tup xs]) = true) : ∃ S', d_counter [.tup [.int i, .tup xs]] S = .ok (.tup [.int (1 - i), .tup xs]) S' ∧ App S S' := by
  obtain ⟨S', q, a⟩ := check_ok g h
  refine ⟨S', ?_, a⟩
  unfold d_counter b_counter
  simp only [OD.ev_bind, OD.ev_bindx, OD.ev_st, OD.ev_stx, OD.ev_nox, OD.ev_seq, OD.ev_seqr, OD.ev_seqx, OD.ev_lift, OD.ev_var, OD.ev_var1, OD.ev_k, OD.ev_op, OD.ev_op1, OD.ev_op2, OD.ev_un, OD.ev_un1, OD.ev_nil, OD.ev_cons, OD.ev_cons1, OD.ev_cons2, OD.ev_tup, OD.ev_tup1, OD.ev_lst, OD.ev_lst1, OD.ev_b, OD.ev_bl, OD.ev_b1, OD.ev_new, OD.ev_new1, OD.ev_m, OD.ev_m1, OD.ev_m2, OD.ev_and, OD.ev_andt, OD.ev_andf, OD.ev_or, OD.ev_ort, OD.ev_orf, OD.ev_not, OD.ev_not1, OD.ev_if, OD.ev_ift, OD.ev_iff, OD.ev_asb, OD.ev_asb1, OD.ev_tand, OD.ev_tandt, OD.ev_tandf, OD.ev_tor, OD.ev_tort, OD.ev_torf, OD.ev_tnot, OD.ev_tnot1, OD.ev_tru, OD.ev_tru1, OD.ev_o, OD.ev_is, OD.ev_is1, OD.ev_is2, OD.ev_ch, OD.ev_ch1, OD.ev_ch2, OD.ev_ch3t, OD.ev_ch3f, OD.ev_ch4, OD.ev_sl, OD.ev_sl1, OD.ev_sl2, OD.ev_sl3, OD.ev_on, OD.ev_os, OD.ev_os1, OD.ev_call, OD.ev_call1, OD.ev_asg, OD.ev_asg1, OD.ev_asgt, OD.ev_x, OD.ev_x1, OD.ev_r, OD.ev_r1, OD.ev_rn, OD.ev_skip, OD.ev_mseq, OD.ev_cont, OD.ev_break, OD.ev_ifs, OD.ev_ifst, OD.ev_ifsf, OD.ev_si, OD.ev_si1, OD.ev_si2, OD.ev_si3, OD.ev_si4, OD.ev_aug, OD.ev_aug0, OD.ev_aug1, OD.ev_aug2, OD.ev_fn, OD.ev_fnn, OD.ev_fnr, OD.ev_fnx, OD.ix_tup, OD.ix_lst, OD.ix_str, OD.at0, OD.at1, OD.at2, OD.at3, OD.len_tup, OD.len_scr, OD.len_lst, OD.int_int, OD.add_int, OD.add_tup, OD.sub_int, OD.eq_int, OD.eq_bl, OD.eq_str, OD.lt_int, OD.le_int, OD.gt_int, OD.ge_int, OD.mod_int, OD.div_int, OD.mul_int, OD.ev_wh, OD.ev_whf, OD.ev_wht, OD.ev_wen, OD.ev_wer, OD.ev_mst, OD.ev_mst1, OD.ev_msl, OD.ev_msl1, OD.ev_msl2, OD.ev_mscr, OD.ev_ent, OD.ev_ent1, OD.ev_zip, OD.ev_zip1, OD.ev_zip2, OD.ev_rg, OD.ev_lc, OD.ev_for, OD.ev_ext, OD.ev_ext1, List.getElem?_cons_zero, List.getElem?_cons_succ, List.set_cons_zero, List.set_cons_succ, List.replicate_succ, List.replicate_zero, List.map_cons, List.map_nil, List.length_cons, List.length_nil, List.cons_append, List.nil_append, List.append_nil, Nat.zero_add, Nat.reduceAdd, Nat.reduceSub, Nat.sub_self, ev_call1 (us := [U.tup [.int i, .tup xs]]) (n := 1) rfl, q, counter_of_ok]
/-! ### the texts -/
def txs (f : U → List Nat) (i : Int) (xs : List U) : List Nat := (if i = 0 then [43] else [45]) ++ (if xs = [] then [] else [40] ++ TL.joinL [44] (xs.map f) ++ [41])
def tx : Nat → U → List Nat
  | 0, _ => []
  | n + 1, .tup [.int i, .tup xs] => txs (tx n) i xs
  | _ + 1, _ => []
theorem join_len : ∀ (ps : List (List Nat)) (B : Nat), (∀ p, p ∈ ps → p.length ≤ B) → (TL.joinL [44] ps).length ≤ ps.length * (B + 1)
  | [], B, h => by simp [TL.joinL]
  | [p], B, h => by
    have := h p (by simp)
    simp [TL.joinL]
    omega
  | p :: q :: r, B, h => by
    have h1 := h p (by simp)
    have h2 := join_len (q :: r) B fun x hx => h x (by simp only [List.mem_cons] at hx ⊢; exact .inr hx)
    simp only [TL.joinL, List.length_append, List.length_cons, List.length_nil] at h2 ⊢
    rw [Nat.add_mul] at h2 ⊢
    rw [Nat.add_mul]
    omega
theorem tx_len : ∀ {n : Nat} {u : U}, Kd n u → (tx n u).length ≤ 4 ^ (n + 2)
  | _, _, .mk (n := n) (i := i) (xs := xs) hi hl h => by
    show (txs (tx n) i xs).length ≤ _
    have h1 : ∀ p, p ∈ xs.map (tx n) → p.length ≤ 4 ^ (n + 2) := fun p hp => by
      obtain ⟨x, hx, rfl⟩ := List.mem_map.mp hp
      exact tx_len (h x hx)
    have h2 := join_len _ _ h1
    rw [List.length_map] at h2
    have h3 : xs.length * (4 ^ (n + 2) + 1) ≤ 3 * (4 ^ (n + 2) + 1) := Nat.mul_le_mul_right _ hl
    have h4 : 4 ^ (n + 1 + 2) = 4 * 4 ^ (n + 2) := by rw [show n + 1 + 2 = (n + 2) + 1 by omega, Nat.pow_succ]; omega
    have h5 : 16 ≤ 4 ^ (n + 2) := by
      have : 4 ^ 2 ≤ 4 ^ (n + 2) := Nat.pow_le_pow_right (by decide) (by omega)
      simpa using this
    unfold txs
    rw [List.length_append]
    have h6 : (if i = 0 then [43] else [45] : List Nat).length = 1 := by split <;> rfl
    rw [h6, h4]
    split
    · simp
      omega
    · simp only [List.length_append, List.length_cons, List.length_nil]
      omega
/-! ### plain data compared -/
theorem pl_all {n : Nat} (P : U → Prop) : True := trivial
mutual
theorem pl_data : ∀ {n : Nat} {u : U}, Pl n u → ∃ d, toD u = some d ∧ PyData.canLay0 d = true ∧ PyData.depth d ≤ n
  | _, _, .int i => ⟨.int i, rfl, rfl, Nat.zero_le _⟩
  | _, _, .bl i => ⟨.bool i, rfl, rfl, Nat.zero_le _⟩
  | _, _, .tup (xs := xs) h g => by
    obtain ⟨ds, h1, h2, h3⟩ := pls_data xs g
    refine ⟨.tuple ds, ?_, ?_, ?_⟩
    · simp only [toD, h1]
    · simp only [PyData.canLay0, h2]
    · simp only [PyData.depth]
      omega
theorem pls_data {n : Nat} : ∀ (xs : List U), (∀ x, x ∈ xs → Pl n x) → ∃ ds, toDs xs = some ds ∧ PyData.canLayAll0 ds = true ∧ PyData.depthAll ds ≤ n
  | [], _ => ⟨[], rfl, rfl, Nat.zero_le _⟩
  | x :: xs, g => by
    obtain ⟨d, h1, h2, h3⟩ := pl_data (g x (by simp))
    obtain ⟨ds, h4, h5, h6⟩ := pls_data xs fun y hy => g y (by simp [hy])
    refine ⟨d :: ds, ?_, ?_, ?_⟩
    · simp only [toDs, h1, h4]
    · simp only [PyData.canLayAll0, h2, h5, Bool.and_self]
    · simp only [PyData.depthAll]
      omega
end
theorem shaped_of {d : PyData} (h : PyData.canLay0 d = true) (h2 : PyData.depth d ≤ 64) : SeqAt.shaped d = true := by
  unfold SeqAt.shaped
  rw [h, decide_eq_true h2]
  rfl
theorem eq_tup {S : Sto} {n m : Nat} {xs ys : List U} (p : Pl n (.tup xs)) (q : Pl m (.tup ys)) (hn : n ≤ 64) (hm : m ≤ 64) : fEq (.tup xs) (.tup ys) S = some (.bl (eqUs xs ys), S) := by
  obtain ⟨d, h1, h2, h3⟩ := pl_data p
  obtain ⟨d', h4, h5, h6⟩ := pl_data q
  have e := eqv_of h1 h4
  show (match toDS S (.tup xs), toDS S (.tup ys) with
    | some d, some e => if SeqAt.shaped d && SeqAt.shaped e then some (U.bl (PyData.eqv d e), S) else none
    | _, _ => none) = _
  rw [show toDS S (.tup xs) = some d from h1, show toDS S (.tup ys) = some d' from h4]
  simp only [shaped_of h2 (by omega), shaped_of h5 (by omega), Bool.and_self, if_true, e]
  rfl
theorem eq_lst {S : Sto} {n : Nat} {i j : Nat} {xs ys : List U} (h1 : S[i]? = some (.lst xs)) (h2 : S[j]? = some (.lst ys)) (p : ∀ x, x ∈ xs → Pl n x) (q : ∀ x, x ∈ ys → Pl n x) (hn : n ≤ 60) : fEq (.ref i) (.ref j) S = some (.bl (eqUs xs ys), S) := by
  obtain ⟨ds, a1, a2, a3⟩ := pls_data xs p
  obtain ⟨es, b1, b2, b3⟩ := pls_data ys q
  have e := eqvs_of a1 b1
  show (match toDS S (.ref i), toDS S (.ref j) with
    | some d, some e => if SeqAt.shaped d && SeqAt.shaped e then some (U.bl (PyData.eqv d e), S) else none
    | _, _ => none) = _
  have c1 : toDS S (.ref i) = some (.list ds) := by
    unfold toDS
    simp only [h1, a1]
    rfl
  have c2 : toDS S (.ref j) = some (.list es) := by
    unfold toDS
    simp only [h2, b1]
    rfl
  rw [c1, c2]
  have s1 : SeqAt.shaped (.list ds) = true := shaped_of (by simp only [PyData.canLay0, a2]) (by simp only [PyData.depth]; omega)
  have s2 : SeqAt.shaped (.list es) = true := shaped_of (by simp only [PyData.canLay0, b2]) (by simp only [PyData.depth]; omega)
  have e3 : PyData.eqv (.list ds) (.list es) = eqUs xs ys := by
    rw [← e]
    simp only [PyData.eqv]
  simp only [s1, s2, Bool.and_self, if_true, e3]
mutual
theorem eqU_self : ∀ {n : Nat} {u : U}, Pl n u → OD.eqU u u = true
  | _, _, .int i => by simp [OD.eqU]
  | _, _, .bl i => by simp [OD.eqU]
  | _, _, .tup (xs := xs) h g => by
    simp only [OD.eqU]
    exact eqUs_self xs g
theorem eqUs_self {n : Nat} : ∀ (xs : List U), (∀ x, x ∈ xs → Pl n x) → eqUs xs xs = true
  | [], _ => rfl
  | x :: xs, g => by
    simp only [eqUs, eqU_self (g x (by simp)), eqUs_self xs fun y hy => g y (by simp [hy]), Bool.and_self]
end
theorem eqUs_len : ∀ (xs ys : List U), xs.length ≠ ys.length → eqUs xs ys = false
  | [], [], h => absurd rfl h
  | [], _ :: _, _ => rfl
  | _ :: _, [], _ => rfl
  | x :: xs, y :: ys, h => by
    simp only [eqUs, eqUs_len xs ys (by simpa using h), Bool.and_false]
theorem ne_of_eq {S : Sto} {u v : U} {b : Bool} (h : fEq u v S = some (.bl b, S)) : fNe u v S = some (.bl (!b), S) := by
  unfold fNe
  rw [h]
  rfl
/-! ### the program's text, the law's word -/
theorem strs_map : ∀ (xs : List U) (f : U → List Nat), strsOf (xs.map fun x => U.str (f x)) = some (xs.map f)
  | [], _ => rfl
  | x :: xs, f => by
    show (strsOf (xs.map fun x => U.str (f x))).map (f x :: ·) = _
    rw [strs_map xs f]
    rfl
theorem join_ok {S : Sto} {j : Nat} {xs : List U} {f : U → List Nat} {B : Nat} (h : S[j]? = some (.lst (xs.map fun x => U.str (f x)))) (hl : xs.length ≤ 3) (hB : ∀ x, x ∈ xs → (f x).length ≤ B) (hb : B ≤ 5000000) : fJoin (.str [44]) [.ref j] S = some (.str (TL.joinL [44] (xs.map f)), S) := by
  have e : seqStrs (.ref j) S = some (xs.map f) := by
    unfold seqStrs seqOf
    simp only [h, strs_map]
  have hs : ((xs.map f).map List.length).sum + (xs.map f).length * ([44] : List Nat).length ≤ 16777216 := by
    have : ((xs.map f).map List.length).sum ≤ xs.length * B := by
      clear e h hl
      induction xs with
      | nil => simp
      | cons x xs ih =>
        have h1 := hB x (by simp)
        have h2 := ih fun y hy => hB y (by simp [hy])
        simp only [List.map_cons, List.sum_cons, List.length_cons]
        rw [Nat.add_mul]
        omega
    have h3 : xs.length * B ≤ 3 * B := Nat.mul_le_mul_right _ hl
    simp only [List.length_map, List.length_cons, List.length_nil]
    omega
  unfold fJoin
  simp only [e, if_pos hs]
theorem add_str {S : Sto} {a b : List Nat} (h : a.length + b.length ≤ sizeLine) : fAdd (.str a) (.str b) S = some (.str (a ++ b), S) := if_pos h
theorem i00 : ((0 : Int) == 0) = true := rfl
theorem i10 : ((1 : Int) == 0) = false := rfl
theorem i1n : ¬ ((1 : Int) = 0) := by decide
theorem z_00 : ((((0 : Nat) : Int)) == 0) = true := rfl
theorem items_ok {D : FM} {S : Sto} {k : Nat} {xs : List U} {e0 e1 : Option U} (hl : xs.length ≤ 3) (ih : ∀ x, x ∈ xs → ∀ S, ∃ S', D [x] S = .ok (.str (tx k x)) S' ∧ App S S') :
    ∃ S', cLc (.nm 2) [2] mYes (mCall 1 D (mCons (mVar 2) mNil)) [e0, e1, none] (.its xs) S = .ok (xs.map fun x => U.str (tx k x)) S' ∧ App S S' := by
  refine lc_app (r := fun x => U.str (tx k x)) (fun _ _ => rfl) ?_ fun x hx => ?_
  · have : (3 : Nat) ≤ sizeLine := by decide
    omega
  · refine ⟨[e0, e1, some x], rfl, fun S1 a1 => ?_⟩
    obtain ⟨S2, q, a2⟩ := ih x hx S1
    refine ⟨S2, ?_, a2⟩
    simp only [OD.ev_bind, OD.ev_bindx, OD.ev_st, OD.ev_stx, OD.ev_nox, OD.ev_seq, OD.ev_seqr, OD.ev_seqx, OD.ev_lift, OD.ev_var, OD.ev_var1, OD.ev_k, OD.ev_op, OD.ev_op1, OD.ev_op2, OD.ev_un, OD.ev_un1, OD.ev_nil, OD.ev_cons, OD.ev_cons1, OD.ev_cons2, OD.ev_tup, OD.ev_tup1, OD.ev_lst, OD.ev_lst1, OD.ev_b, OD.ev_bl, OD.ev_b1, OD.ev_new, OD.ev_new1, OD.ev_m, OD.ev_m1, OD.ev_m2, OD.ev_and, OD.ev_andt, OD.ev_andf, OD.ev_or, OD.ev_ort, OD.ev_orf, OD.ev_not, OD.ev_not1, OD.ev_if, OD.ev_ift, OD.ev_iff, OD.ev_asb, OD.ev_asb1, OD.ev_tand, OD.ev_tandt, OD.ev_tandf, OD.ev_tor, OD.ev_tort, OD.ev_torf, OD.ev_tnot, OD.ev_tnot1, OD.ev_tru, OD.ev_tru1, OD.ev_o, OD.ev_is, OD.ev_is1, OD.ev_is2, OD.ev_ch, OD.ev_ch1, OD.ev_ch2, OD.ev_ch3t, OD.ev_ch3f, OD.ev_ch4, OD.ev_sl, OD.ev_sl1, OD.ev_sl2, OD.ev_sl3, OD.ev_on, OD.ev_os, OD.ev_os1, OD.ev_call, OD.ev_call1, OD.ev_asg, OD.ev_asg1, OD.ev_asgt, OD.ev_x, OD.ev_x1, OD.ev_r, OD.ev_r1, OD.ev_rn, OD.ev_skip, OD.ev_mseq, OD.ev_cont, OD.ev_break, OD.ev_ifs, OD.ev_ifst, OD.ev_ifsf, OD.ev_si, OD.ev_si1, OD.ev_si2, OD.ev_si3, OD.ev_si4, OD.ev_aug, OD.ev_aug0, OD.ev_aug1, OD.ev_aug2, OD.ev_fn, OD.ev_fnn, OD.ev_fnr, OD.ev_fnx, OD.ix_tup, OD.ix_lst, OD.ix_str, OD.at0, OD.at1, OD.at2, OD.at3, OD.len_tup, OD.len_scr, OD.len_lst, OD.int_int, OD.add_int, OD.add_tup, OD.sub_int, OD.eq_int, OD.eq_bl, OD.eq_str, OD.lt_int, OD.le_int, OD.gt_int, OD.ge_int, OD.mod_int, OD.div_int, OD.mul_int, OD.ev_wh, OD.ev_whf, OD.ev_wht, OD.ev_wen, OD.ev_wer, OD.ev_mst, OD.ev_mst1, OD.ev_msl, OD.ev_msl1, OD.ev_msl2, OD.ev_mscr, OD.ev_ent, OD.ev_ent1, OD.ev_zip, OD.ev_zip1, OD.ev_zip2, OD.ev_rg, OD.ev_lc, OD.ev_for, OD.ev_ext, OD.ev_ext1, List.getElem?_cons_zero, List.getElem?_cons_succ, List.set_cons_zero, List.set_cons_succ, List.replicate_succ, List.replicate_zero, List.map_cons, List.map_nil, List.length_cons, List.length_nil, List.cons_append, List.nil_append, List.append_nil, Nat.zero_add, Nat.reduceAdd, Nat.reduceSub, Nat.sub_self, ev_call1 (us := [x]) (n := 1) rfl, q]
theorem tx_small {n : Nat} {u : U} (h : Kd n u) (hn : n ≤ 8) : (tx n u).length ≤ 1048576 := by
  have h1 := tx_len h
  have h2 : 4 ^ (n + 2) ≤ 4 ^ 10 := Nat.pow_le_pow_right (by decide) (by omega)
  have h3 : (4 : Nat) ^ 10 = 1048576 := by decide
  omega
theorem joined_small {k : Nat} {xs : List U} (h : ∀ x, x ∈ xs → Kd k x) (hk : k ≤ 8) (hl : xs.length ≤ 3) : (TL.joinL [44] (xs.map (tx k))).length ≤ 3145731 := by
  have h1 : ∀ p, p ∈ xs.map (tx k) → p.length ≤ 1048576 := fun p hp => by
    obtain ⟨x, hx, rfl⟩ := List.mem_map.mp hp
    exact tx_small (h x hx) hk
  have h2 := join_len _ _ h1
  rw [List.length_map] at h2
  have h3 : xs.length * (1048576 + 1) ≤ 3 * (1048576 + 1) := Nat.mul_le_mul_right _ hl
  omega
theorem size_is : sizeLine = 16777216 := by decide
theorem ktext_ok : ∀ (n : Nat) (u : U), Kd n u → n ≤ 8 → ∀ (m : Nat), n ≤ m → ∀ S : Sto, ∃ S', d_kind_text_of m [u] S = .ok (.str (tx n u)) S' ∧ App S S'
  | 0, u, p, hn, m, hm, S => by cases p
  | n + 1, u, p, hn, 0, hm, S => absurd hm (by omega)
  | n + 1, u, p, hn, m + 1, hm, S => by
    cases p with
    | @mk _ i xs hi hl h =>
      show ∃ S', fnD 3 (b_kind_text_of (d_kind_text_of m)) [.tup [.int i, .tup xs]] S = .ok (.str (txs (tx n) i xs)) S' ∧ App S S'
      obtain ⟨sg, hsg, hs1⟩ : ∃ sg : List Nat, (if i = 0 then [43] else [45] : List Nat) = sg ∧ sg.length = 1 := ⟨_, rfl, by split <;> rfl⟩
      have he : (i == 0) = decide (i = 0) := by rcases hi with rfl | rfl <;> rfl
      have hJ := joined_small h (by omega) hl
      have hB : ∀ x, x ∈ xs → (tx n x).length ≤ 1048576 := fun x hx => tx_small (h x hx) (by omega)
      by_cases hx : xs = []
      · subst hx
        refine ⟨S, ?_, .refl⟩
        unfold txs
        rcases hi with rfl | rfl
        · simp only [b_kind_text_of, OD.ev_bind, OD.ev_bindx, OD.ev_st, OD.ev_stx, OD.ev_nox, OD.ev_seq, OD.ev_seqr, OD.ev_seqx, OD.ev_lift, OD.ev_var, OD.ev_var1, OD.ev_k, OD.ev_op, OD.ev_op1, OD.ev_op2, OD.ev_un, OD.ev_un1, OD.ev_nil, OD.ev_cons, OD.ev_cons1, OD.ev_cons2, OD.ev_tup, OD.ev_tup1, OD.ev_lst, OD.ev_lst1, OD.ev_b, OD.ev_bl, OD.ev_b1, OD.ev_new, OD.ev_new1, OD.ev_m, OD.ev_m1, OD.ev_m2, OD.ev_and, OD.ev_andt, OD.ev_andf, OD.ev_or, OD.ev_ort, OD.ev_orf, OD.ev_not, OD.ev_not1, OD.ev_if, OD.ev_ift, OD.ev_iff, OD.ev_asb, OD.ev_asb1, OD.ev_tand, OD.ev_tandt, OD.ev_tandf, OD.ev_tor, OD.ev_tort, OD.ev_torf, OD.ev_tnot, OD.ev_tnot1, OD.ev_tru, OD.ev_tru1, OD.ev_o, OD.ev_is, OD.ev_is1, OD.ev_is2, OD.ev_ch, OD.ev_ch1, OD.ev_ch2, OD.ev_ch3t, OD.ev_ch3f, OD.ev_ch4, OD.ev_sl, OD.ev_sl1, OD.ev_sl2, OD.ev_sl3, OD.ev_on, OD.ev_os, OD.ev_os1, OD.ev_call, OD.ev_call1, OD.ev_asg, OD.ev_asg1, OD.ev_asgt, OD.ev_x, OD.ev_x1, OD.ev_r, OD.ev_r1, OD.ev_rn, OD.ev_skip, OD.ev_mseq, OD.ev_cont, OD.ev_break, OD.ev_ifs, OD.ev_ifst, OD.ev_ifsf, OD.ev_si, OD.ev_si1, OD.ev_si2, OD.ev_si3, OD.ev_si4, OD.ev_aug, OD.ev_aug0, OD.ev_aug1, OD.ev_aug2, OD.ev_fn, OD.ev_fnn, OD.ev_fnr, OD.ev_fnx, OD.ix_tup, OD.ix_lst, OD.ix_str, OD.at0, OD.at1, OD.at2, OD.at3, OD.len_tup, OD.len_scr, OD.len_lst, OD.int_int, OD.add_int, OD.add_tup, OD.sub_int, OD.eq_int, OD.eq_bl, OD.eq_str, OD.lt_int, OD.le_int, OD.gt_int, OD.ge_int, OD.mod_int, OD.div_int, OD.mul_int, OD.ev_wh, OD.ev_whf, OD.ev_wht, OD.ev_wen, OD.ev_wer, OD.ev_mst, OD.ev_mst1, OD.ev_msl, OD.ev_msl1, OD.ev_msl2, OD.ev_mscr, OD.ev_ent, OD.ev_ent1, OD.ev_zip, OD.ev_zip1, OD.ev_zip2, OD.ev_rg, OD.ev_lc, OD.ev_for, OD.ev_ext, OD.ev_ext1, List.getElem?_cons_zero, List.getElem?_cons_succ, List.set_cons_zero, List.set_cons_succ, List.replicate_succ, List.replicate_zero, List.map_cons, List.map_nil, List.length_cons, List.length_nil, List.cons_append, List.nil_append, List.append_nil, Nat.zero_add, Nat.reduceAdd, Nat.reduceSub, Nat.sub_self, OD.ix_tup at0, OD.ix_tup at1, beq_self_eq_true, i00, z_00, if_true]
        · simp only [b_kind_text_of, OD.ev_bind, OD.ev_bindx, OD.ev_st, OD.ev_stx, OD.ev_nox, OD.ev_seq, OD.ev_seqr, OD.ev_seqx, OD.ev_lift, OD.ev_var, OD.ev_var1, OD.ev_k, OD.ev_op, OD.ev_op1, OD.ev_op2, OD.ev_un, OD.ev_un1, OD.ev_nil, OD.ev_cons, OD.ev_cons1, OD.ev_cons2, OD.ev_tup, OD.ev_tup1, OD.ev_lst, OD.ev_lst1, OD.ev_b, OD.ev_bl, OD.ev_b1, OD.ev_new, OD.ev_new1, OD.ev_m, OD.ev_m1, OD.ev_m2, OD.ev_and, OD.ev_andt, OD.ev_andf, OD.ev_or, OD.ev_ort, OD.ev_orf, OD.ev_not, OD.ev_not1, OD.ev_if, OD.ev_ift, OD.ev_iff, OD.ev_asb, OD.ev_asb1, OD.ev_tand, OD.ev_tandt, OD.ev_tandf, OD.ev_tor, OD.ev_tort, OD.ev_torf, OD.ev_tnot, OD.ev_tnot1, OD.ev_tru, OD.ev_tru1, OD.ev_o, OD.ev_is, OD.ev_is1, OD.ev_is2, OD.ev_ch, OD.ev_ch1, OD.ev_ch2, OD.ev_ch3t, OD.ev_ch3f, OD.ev_ch4, OD.ev_sl, OD.ev_sl1, OD.ev_sl2, OD.ev_sl3, OD.ev_on, OD.ev_os, OD.ev_os1, OD.ev_call, OD.ev_call1, OD.ev_asg, OD.ev_asg1, OD.ev_asgt, OD.ev_x, OD.ev_x1, OD.ev_r, OD.ev_r1, OD.ev_rn, OD.ev_skip, OD.ev_mseq, OD.ev_cont, OD.ev_break, OD.ev_ifs, OD.ev_ifst, OD.ev_ifsf, OD.ev_si, OD.ev_si1, OD.ev_si2, OD.ev_si3, OD.ev_si4, OD.ev_aug, OD.ev_aug0, OD.ev_aug1, OD.ev_aug2, OD.ev_fn, OD.ev_fnn, OD.ev_fnr, OD.ev_fnx, OD.ix_tup, OD.ix_lst, OD.ix_str, OD.at0, OD.at1, OD.at2, OD.at3, OD.len_tup, OD.len_scr, OD.len_lst, OD.int_int, OD.add_int, OD.add_tup, OD.sub_int, OD.eq_int, OD.eq_bl, OD.eq_str, OD.lt_int, OD.le_int, OD.gt_int, OD.ge_int, OD.mod_int, OD.div_int, OD.mul_int, OD.ev_wh, OD.ev_whf, OD.ev_wht, OD.ev_wen, OD.ev_wer, OD.ev_mst, OD.ev_mst1, OD.ev_msl, OD.ev_msl1, OD.ev_msl2, OD.ev_mscr, OD.ev_ent, OD.ev_ent1, OD.ev_zip, OD.ev_zip1, OD.ev_zip2, OD.ev_rg, OD.ev_lc, OD.ev_for, OD.ev_ext, OD.ev_ext1, List.getElem?_cons_zero, List.getElem?_cons_succ, List.set_cons_zero, List.set_cons_succ, List.replicate_succ, List.replicate_zero, List.map_cons, List.map_nil, List.length_cons, List.length_nil, List.cons_append, List.nil_append, List.append_nil, Nat.zero_add, Nat.reduceAdd, Nat.reduceSub, Nat.sub_self, OD.ix_tup at0, OD.ix_tup at1, beq_self_eq_true, i10, z_00, if_true, if_neg i1n]
      · have hxl : ((((xs.length : Nat) : Int)) == 0) = false := by
          refine beq_eq_false_iff_ne.mpr fun q => hx ?_
          exact List.eq_nil_of_length_eq_zero (by omega)
        have ih : ∀ x, x ∈ xs → ∀ S, ∃ S', d_kind_text_of m [x] S = .ok (.str (tx n x)) S' ∧ App S S' := fun x hx S => ktext_ok n x (h x hx) (by omega) m (by omega) S
        obtain ⟨S', q, a⟩ := items_ok (D := d_kind_text_of m) (S := S) (e0 := some (.tup [.int i, .tup xs])) (e1 := some (.str sg)) hl ih
        refine ⟨S' ++ [.lst (xs.map fun x => U.str (tx n x))], ?_, a.trans .app⟩
        have e1 : fJoin (.str [44]) [.ref S'.length] (S' ++ [.lst (xs.map fun x => U.str (tx n x))]) = some (.str (TL.joinL [44] (xs.map (tx n))), S' ++ [.lst (xs.map fun x => U.str (tx n x))]) := join_ok last_get hl hB (by omega)
        have s1 : sg.length + ([40] : List Nat).length ≤ sizeLine := by rw [size_is]; simp; omega
        have s2 : ∀ c : Nat, ([c, 40] : List Nat).length + (TL.joinL [44] (xs.map (tx n))).length ≤ sizeLine := fun c => by rw [size_is]; simp; omega
        have s3 : ∀ c : Nat, (c :: 40 :: TL.joinL [44] (xs.map (tx n))).length + ([41] : List Nat).length ≤ sizeLine := fun c => by rw [size_is]; simp; omega
        have et : txs (tx n) i xs = sg ++ [40] ++ TL.joinL [44] (xs.map (tx n)) ++ [41] := by
          unfold txs
          rw [hsg, if_neg hx]
          simp only [List.append_assoc]
        rw [et]
        rcases hi with rfl | rfl
        · have : sg = [43] := hsg.symm
          subst this
          simp only [b_kind_text_of, OD.ev_bind, OD.ev_bindx, OD.ev_st, OD.ev_stx, OD.ev_nox, OD.ev_seq, OD.ev_seqr, OD.ev_seqx, OD.ev_lift, OD.ev_var, OD.ev_var1, OD.ev_k, OD.ev_op, OD.ev_op1, OD.ev_op2, OD.ev_un, OD.ev_un1, OD.ev_nil, OD.ev_cons, OD.ev_cons1, OD.ev_cons2, OD.ev_tup, OD.ev_tup1, OD.ev_lst, OD.ev_lst1, OD.ev_b, OD.ev_bl, OD.ev_b1, OD.ev_new, OD.ev_new1, OD.ev_m, OD.ev_m1, OD.ev_m2, OD.ev_and, OD.ev_andt, OD.ev_andf, OD.ev_or, OD.ev_ort, OD.ev_orf, OD.ev_not, OD.ev_not1, OD.ev_if, OD.ev_ift, OD.ev_iff, OD.ev_asb, OD.ev_asb1, OD.ev_tand, OD.ev_tandt, OD.ev_tandf, OD.ev_tor, OD.ev_tort, OD.ev_torf, OD.ev_tnot, OD.ev_tnot1, OD.ev_tru, OD.ev_tru1, OD.ev_o, OD.ev_is, OD.ev_is1, OD.ev_is2, OD.ev_ch, OD.ev_ch1, OD.ev_ch2, OD.ev_ch3t, OD.ev_ch3f, OD.ev_ch4, OD.ev_sl, OD.ev_sl1, OD.ev_sl2, OD.ev_sl3, OD.ev_on, OD.ev_os, OD.ev_os1, OD.ev_call, OD.ev_call1, OD.ev_asg, OD.ev_asg1, OD.ev_asgt, OD.ev_x, OD.ev_x1, OD.ev_r, OD.ev_r1, OD.ev_rn, OD.ev_skip, OD.ev_mseq, OD.ev_cont, OD.ev_break, OD.ev_ifs, OD.ev_ifst, OD.ev_ifsf, OD.ev_si, OD.ev_si1, OD.ev_si2, OD.ev_si3, OD.ev_si4, OD.ev_aug, OD.ev_aug0, OD.ev_aug1, OD.ev_aug2, OD.ev_fn, OD.ev_fnn, OD.ev_fnr, OD.ev_fnx, OD.ix_tup, OD.ix_lst, OD.ix_str, OD.at0, OD.at1, OD.at2, OD.at3, OD.len_tup, OD.len_scr, OD.len_lst, OD.int_int, OD.add_int, OD.add_tup, OD.sub_int, OD.eq_int, OD.eq_bl, OD.eq_str, OD.lt_int, OD.le_int, OD.gt_int, OD.ge_int, OD.mod_int, OD.div_int, OD.mul_int, OD.ev_wh, OD.ev_whf, OD.ev_wht, OD.ev_wen, OD.ev_wer, OD.ev_mst, OD.ev_mst1, OD.ev_msl, OD.ev_msl1, OD.ev_msl2, OD.ev_mscr, OD.ev_ent, OD.ev_ent1, OD.ev_zip, OD.ev_zip1, OD.ev_zip2, OD.ev_rg, OD.ev_lc, OD.ev_for, OD.ev_ext, OD.ev_ext1, List.getElem?_cons_zero, List.getElem?_cons_succ, List.set_cons_zero, List.set_cons_succ, List.replicate_succ, List.replicate_zero, List.map_cons, List.map_nil, List.length_cons, List.length_nil, List.cons_append, List.nil_append, List.append_nil, Nat.zero_add, Nat.reduceAdd, Nat.reduceSub, Nat.sub_self, OD.ix_tup at0, OD.ix_tup at1, beq_self_eq_true, i00, hxl, add_str s1, ev_m1 isTy_str, q, e1, add_str (s2 _), add_str (s3 _)]
        · have : sg = [45] := hsg.symm
          subst this
          simp only [b_kind_text_of, OD.ev_bind, OD.ev_bindx, OD.ev_st, OD.ev_stx, OD.ev_nox, OD.ev_seq, OD.ev_seqr, OD.ev_seqx, OD.ev_lift, OD.ev_var, OD.ev_var1, OD.ev_k, OD.ev_op, OD.ev_op1, OD.ev_op2, OD.ev_un, OD.ev_un1, OD.ev_nil, OD.ev_cons, OD.ev_cons1, OD.ev_cons2, OD.ev_tup, OD.ev_tup1, OD.ev_lst, OD.ev_lst1, OD.ev_b, OD.ev_bl, OD.ev_b1, OD.ev_new, OD.ev_new1, OD.ev_m, OD.ev_m1, OD.ev_m2, OD.ev_and, OD.ev_andt, OD.ev_andf, OD.ev_or, OD.ev_ort, OD.ev_orf, OD.ev_not, OD.ev_not1, OD.ev_if, OD.ev_ift, OD.ev_iff, OD.ev_asb, OD.ev_asb1, OD.ev_tand, OD.ev_tandt, OD.ev_tandf, OD.ev_tor, OD.ev_tort, OD.ev_torf, OD.ev_tnot, OD.ev_tnot1, OD.ev_tru, OD.ev_tru1, OD.ev_o, OD.ev_is, OD.ev_is1, OD.ev_is2, OD.ev_ch, OD.ev_ch1, OD.ev_ch2, OD.ev_ch3t, OD.ev_ch3f, OD.ev_ch4, OD.ev_sl, OD.ev_sl1, OD.ev_sl2, OD.ev_sl3, OD.ev_on, OD.ev_os, OD.ev_os1, OD.ev_call, OD.ev_call1, OD.ev_asg, OD.ev_asg1, OD.ev_asgt, OD.ev_x, OD.ev_x1, OD.ev_r, OD.ev_r1, OD.ev_rn, OD.ev_skip, OD.ev_mseq, OD.ev_cont, OD.ev_break, OD.ev_ifs, OD.ev_ifst, OD.ev_ifsf, OD.ev_si, OD.ev_si1, OD.ev_si2, OD.ev_si3, OD.ev_si4, OD.ev_aug, OD.ev_aug0, OD.ev_aug1, OD.ev_aug2, OD.ev_fn, OD.ev_fnn, OD.ev_fnr, OD.ev_fnx, OD.ix_tup, OD.ix_lst, OD.ix_str, OD.at0, OD.at1, OD.at2, OD.at3, OD.len_tup, OD.len_scr, OD.len_lst, OD.int_int, OD.add_int, OD.add_tup, OD.sub_int, OD.eq_int, OD.eq_bl, OD.eq_str, OD.lt_int, OD.le_int, OD.gt_int, OD.ge_int, OD.mod_int, OD.div_int, OD.mul_int, OD.ev_wh, OD.ev_whf, OD.ev_wht, OD.ev_wen, OD.ev_wer, OD.ev_mst, OD.ev_mst1, OD.ev_msl, OD.ev_msl1, OD.ev_msl2, OD.ev_mscr, OD.ev_ent, OD.ev_ent1, OD.ev_zip, OD.ev_zip1, OD.ev_zip2, OD.ev_rg, OD.ev_lc, OD.ev_for, OD.ev_ext, OD.ev_ext1, List.getElem?_cons_zero, List.getElem?_cons_succ, List.set_cons_zero, List.set_cons_succ, List.replicate_succ, List.replicate_zero, List.map_cons, List.map_nil, List.length_cons, List.length_nil, List.cons_append, List.nil_append, List.append_nil, Nat.zero_add, Nat.reduceAdd, Nat.reduceSub, Nat.sub_self, OD.ix_tup at0, OD.ix_tup at1, beq_self_eq_true, i10, hxl, add_str s1, ev_m1 isTy_str, q, e1, add_str (s2 _), add_str (s3 _)]
theorem eqUs_nil : ∀ xs : List U, eqUs xs [] = xs.isEmpty
  | [] => rfl
  | _ :: _ => rfl
theorem kword_ok : ∀ (n : Nat) (u : U), Kd n u → n ≤ 8 → ∀ (m : Nat), n ≤ m → ∀ S : Sto, ∃ S', d__law_kind_word m [u] S = .ok (.str (tx n u)) S' ∧ App S S'
  | 0, u, p, hn, m, hm, S => by cases p
  | n + 1, u, p, hn, 0, hm, S => absurd hm (by omega)
  | n + 1, u, p, hn, m + 1, hm, S => by
    have pl0 := p.pl
    cases p with
    | @mk _ i xs hi hl h =>
      show ∃ S', fnD 3 (b__law_kind_word (d__law_kind_word m)) [.tup [.int i, .tup xs]] S = .ok (.str (txs (tx n) i xs)) S' ∧ App S S'
      have hJ := joined_small h (by omega) hl
      have hB : ∀ x, x ∈ xs → (tx n x).length ≤ 1048576 := fun x hx => tx_small (h x hx) (by omega)
      have ih : ∀ x, x ∈ xs → ∀ S, ∃ S', d__law_kind_word m [x] S = .ok (.str (tx n x)) S' ∧ App S S' := fun x hx S => kword_ok n x (h x hx) (by omega) m (by omega) S
      obtain ⟨S', q, a⟩ := items_ok (D := d__law_kind_word m) (S := S) (e0 := some (.tup [.int i, .tup xs])) (e1 := none) hl ih
      refine ⟨S' ++ [.lst (xs.map fun x => U.str (tx n x))], ?_, a.trans .app⟩
      have e1 : fJoin (.str [44]) [.ref S'.length] (S' ++ [.lst (xs.map fun x => U.str (tx n x))]) = some (.str (TL.joinL [44] (xs.map (tx n))), S' ++ [.lst (xs.map fun x => U.str (tx n x))]) := join_ok last_get hl hB (by omega)
      have s2 : ([40] : List Nat).length + (TL.joinL [44] (xs.map (tx n))).length ≤ sizeLine := by rw [size_is]; simp; omega
      have s3 : (40 :: TL.joinL [44] (xs.map (tx n))).length + ([41] : List Nat).length ≤ sizeLine := by rw [size_is]; simp; omega
      have s4 : ∀ c : Nat, ([c] : List Nat).length + (40 :: (TL.joinL [44] (xs.map (tx n)) ++ [41])).length ≤ sizeLine := fun c => by rw [size_is]; simp; omega
      have s5 : ∀ c : Nat, ([c] : List Nat).length + ([] : List Nat).length ≤ sizeLine := fun c => by rw [size_is]; simp
      have s6 : ([43, 45] : List Nat).length ≤ sizeLine := by rw [size_is]; simp
      have pt : Pl (2 * n + 1) (.tup xs) := .tup (n := 2 * n) (by omega) fun y hy => (h y hy).pl
      have en : fNe (.tup xs) (.tup []) (S' ++ [.lst (xs.map fun x => U.str (tx n x))]) = some (.bl (!xs.isEmpty), S' ++ [.lst (xs.map fun x => U.str (tx n x))]) := by
        rw [← eqUs_nil]
        exact ne_of_eq (eq_tup pt (Pl.tup (n := 0) (xs := []) (by simp) fun x hx => nomatch hx) (by omega) (by omega))
      have z0 : ([] : List U).length ≤ sizeLine := by rw [size_is]; simp
      by_cases hx : xs = []
      · have he : xs.isEmpty = true := by rw [hx]; rfl
        rcases hi with rfl | rfl
        · simp only [b__law_kind_word, OD.ev_bind, OD.ev_bindx, OD.ev_st, OD.ev_stx, OD.ev_nox, OD.ev_seq, OD.ev_seqr, OD.ev_seqx, OD.ev_lift, OD.ev_var, OD.ev_var1, OD.ev_k, OD.ev_op, OD.ev_op1, OD.ev_op2, OD.ev_un, OD.ev_un1, OD.ev_nil, OD.ev_cons, OD.ev_cons1, OD.ev_cons2, OD.ev_tup, OD.ev_tup1, OD.ev_lst, OD.ev_lst1, OD.ev_b, OD.ev_bl, OD.ev_b1, OD.ev_new, OD.ev_new1, OD.ev_m, OD.ev_m1, OD.ev_m2, OD.ev_and, OD.ev_andt, OD.ev_andf, OD.ev_or, OD.ev_ort, OD.ev_orf, OD.ev_not, OD.ev_not1, OD.ev_if, OD.ev_ift, OD.ev_iff, OD.ev_asb, OD.ev_asb1, OD.ev_tand, OD.ev_tandt, OD.ev_tandf, OD.ev_tor, OD.ev_tort, OD.ev_torf, OD.ev_tnot, OD.ev_tnot1, OD.ev_tru, OD.ev_tru1, OD.ev_o, OD.ev_is, OD.ev_is1, OD.ev_is2, OD.ev_ch, OD.ev_ch1, OD.ev_ch2, OD.ev_ch3t, OD.ev_ch3f, OD.ev_ch4, OD.ev_sl, OD.ev_sl1, OD.ev_sl2, OD.ev_sl3, OD.ev_on, OD.ev_os, OD.ev_os1, OD.ev_call, OD.ev_call1, OD.ev_asg, OD.ev_asg1, OD.ev_asgt, OD.ev_x, OD.ev_x1, OD.ev_r, OD.ev_r1, OD.ev_rn, OD.ev_skip, OD.ev_mseq, OD.ev_cont, OD.ev_break, OD.ev_ifs, OD.ev_ifst, OD.ev_ifsf, OD.ev_si, OD.ev_si1, OD.ev_si2, OD.ev_si3, OD.ev_si4, OD.ev_aug, OD.ev_aug0, OD.ev_aug1, OD.ev_aug2, OD.ev_fn, OD.ev_fnn, OD.ev_fnr, OD.ev_fnx, OD.ix_tup, OD.ix_lst, OD.ix_str, OD.at0, OD.at1, OD.at2, OD.at3, OD.len_tup, OD.len_scr, OD.len_lst, OD.int_int, OD.add_int, OD.add_tup, OD.sub_int, OD.eq_int, OD.eq_bl, OD.eq_str, OD.lt_int, OD.le_int, OD.gt_int, OD.ge_int, OD.mod_int, OD.div_int, OD.mul_int, OD.ev_wh, OD.ev_whf, OD.ev_wht, OD.ev_wen, OD.ev_wer, OD.ev_mst, OD.ev_mst1, OD.ev_msl, OD.ev_msl1, OD.ev_msl2, OD.ev_mscr, OD.ev_ent, OD.ev_ent1, OD.ev_zip, OD.ev_zip1, OD.ev_zip2, OD.ev_rg, OD.ev_lc, OD.ev_for, OD.ev_ext, OD.ev_ext1, List.getElem?_cons_zero, List.getElem?_cons_succ, List.set_cons_zero, List.set_cons_succ, List.replicate_succ, List.replicate_zero, List.map_cons, List.map_nil, List.length_cons, List.length_nil, List.cons_append, List.nil_append, List.append_nil, Nat.zero_add, Nat.reduceAdd, Nat.reduceSub, Nat.sub_self, OD.ix_tup at0, OD.ix_tup at1, ev_m1 isTy_str, q, e1, add_str s2, add_str s3, OD.ix_str s6 at0, ev_tup1 z0, en, he, Bool.not_true, add_str (s5 _), txs, if_true, if_pos hx]
        · simp only [b__law_kind_word, OD.ev_bind, OD.ev_bindx, OD.ev_st, OD.ev_stx, OD.ev_nox, OD.ev_seq, OD.ev_seqr, OD.ev_seqx, OD.ev_lift, OD.ev_var, OD.ev_var1, OD.ev_k, OD.ev_op, OD.ev_op1, OD.ev_op2, OD.ev_un, OD.ev_un1, OD.ev_nil, OD.ev_cons, OD.ev_cons1, OD.ev_cons2, OD.ev_tup, OD.ev_tup1, OD.ev_lst, OD.ev_lst1, OD.ev_b, OD.ev_bl, OD.ev_b1, OD.ev_new, OD.ev_new1, OD.ev_m, OD.ev_m1, OD.ev_m2, OD.ev_and, OD.ev_andt, OD.ev_andf, OD.ev_or, OD.ev_ort, OD.ev_orf, OD.ev_not, OD.ev_not1, OD.ev_if, OD.ev_ift, OD.ev_iff, OD.ev_asb, OD.ev_asb1, OD.ev_tand, OD.ev_tandt, OD.ev_tandf, OD.ev_tor, OD.ev_tort, OD.ev_torf, OD.ev_tnot, OD.ev_tnot1, OD.ev_tru, OD.ev_tru1, OD.ev_o, OD.ev_is, OD.ev_is1, OD.ev_is2, OD.ev_ch, OD.ev_ch1, OD.ev_ch2, OD.ev_ch3t, OD.ev_ch3f, OD.ev_ch4, OD.ev_sl, OD.ev_sl1, OD.ev_sl2, OD.ev_sl3, OD.ev_on, OD.ev_os, OD.ev_os1, OD.ev_call, OD.ev_call1, OD.ev_asg, OD.ev_asg1, OD.ev_asgt, OD.ev_x, OD.ev_x1, OD.ev_r, OD.ev_r1, OD.ev_rn, OD.ev_skip, OD.ev_mseq, OD.ev_cont, OD.ev_break, OD.ev_ifs, OD.ev_ifst, OD.ev_ifsf, OD.ev_si, OD.ev_si1, OD.ev_si2, OD.ev_si3, OD.ev_si4, OD.ev_aug, OD.ev_aug0, OD.ev_aug1, OD.ev_aug2, OD.ev_fn, OD.ev_fnn, OD.ev_fnr, OD.ev_fnx, OD.ix_tup, OD.ix_lst, OD.ix_str, OD.at0, OD.at1, OD.at2, OD.at3, OD.len_tup, OD.len_scr, OD.len_lst, OD.int_int, OD.add_int, OD.add_tup, OD.sub_int, OD.eq_int, OD.eq_bl, OD.eq_str, OD.lt_int, OD.le_int, OD.gt_int, OD.ge_int, OD.mod_int, OD.div_int, OD.mul_int, OD.ev_wh, OD.ev_whf, OD.ev_wht, OD.ev_wen, OD.ev_wer, OD.ev_mst, OD.ev_mst1, OD.ev_msl, OD.ev_msl1, OD.ev_msl2, OD.ev_mscr, OD.ev_ent, OD.ev_ent1, OD.ev_zip, OD.ev_zip1, OD.ev_zip2, OD.ev_rg, OD.ev_lc, OD.ev_for, OD.ev_ext, OD.ev_ext1, List.getElem?_cons_zero, List.getElem?_cons_succ, List.set_cons_zero, List.set_cons_succ, List.replicate_succ, List.replicate_zero, List.map_cons, List.map_nil, List.length_cons, List.length_nil, List.cons_append, List.nil_append, List.append_nil, Nat.zero_add, Nat.reduceAdd, Nat.reduceSub, Nat.sub_self, OD.ix_tup at0, OD.ix_tup at1, ev_m1 isTy_str, q, e1, add_str s2, add_str s3, OD.ix_str s6 at1, ev_tup1 z0, en, he, Bool.not_true, add_str (s5 _), txs, if_neg i1n, if_pos hx]
      · have he : xs.isEmpty = false := by cases xs <;> first | exact absurd rfl hx | rfl
        rcases hi with rfl | rfl
        · simp only [b__law_kind_word, OD.ev_bind, OD.ev_bindx, OD.ev_st, OD.ev_stx, OD.ev_nox, OD.ev_seq, OD.ev_seqr, OD.ev_seqx, OD.ev_lift, OD.ev_var, OD.ev_var1, OD.ev_k, OD.ev_op, OD.ev_op1, OD.ev_op2, OD.ev_un, OD.ev_un1, OD.ev_nil, OD.ev_cons, OD.ev_cons1, OD.ev_cons2, OD.ev_tup, OD.ev_tup1, OD.ev_lst, OD.ev_lst1, OD.ev_b, OD.ev_bl, OD.ev_b1, OD.ev_new, OD.ev_new1, OD.ev_m, OD.ev_m1, OD.ev_m2, OD.ev_and, OD.ev_andt, OD.ev_andf, OD.ev_or, OD.ev_ort, OD.ev_orf, OD.ev_not, OD.ev_not1, OD.ev_if, OD.ev_ift, OD.ev_iff, OD.ev_asb, OD.ev_asb1, OD.ev_tand, OD.ev_tandt, OD.ev_tandf, OD.ev_tor, OD.ev_tort, OD.ev_torf, OD.ev_tnot, OD.ev_tnot1, OD.ev_tru, OD.ev_tru1, OD.ev_o, OD.ev_is, OD.ev_is1, OD.ev_is2, OD.ev_ch, OD.ev_ch1, OD.ev_ch2, OD.ev_ch3t, OD.ev_ch3f, OD.ev_ch4, OD.ev_sl, OD.ev_sl1, OD.ev_sl2, OD.ev_sl3, OD.ev_on, OD.ev_os, OD.ev_os1, OD.ev_call, OD.ev_call1, OD.ev_asg, OD.ev_asg1, OD.ev_asgt, OD.ev_x, OD.ev_x1, OD.ev_r, OD.ev_r1, OD.ev_rn, OD.ev_skip, OD.ev_mseq, OD.ev_cont, OD.ev_break, OD.ev_ifs, OD.ev_ifst, OD.ev_ifsf, OD.ev_si, OD.ev_si1, OD.ev_si2, OD.ev_si3, OD.ev_si4, OD.ev_aug, OD.ev_aug0, OD.ev_aug1, OD.ev_aug2, OD.ev_fn, OD.ev_fnn, OD.ev_fnr, OD.ev_fnx, OD.ix_tup, OD.ix_lst, OD.ix_str, OD.at0, OD.at1, OD.at2, OD.at3, OD.len_tup, OD.len_scr, OD.len_lst, OD.int_int, OD.add_int, OD.add_tup, OD.sub_int, OD.eq_int, OD.eq_bl, OD.eq_str, OD.lt_int, OD.le_int, OD.gt_int, OD.ge_int, OD.mod_int, OD.div_int, OD.mul_int, OD.ev_wh, OD.ev_whf, OD.ev_wht, OD.ev_wen, OD.ev_wer, OD.ev_mst, OD.ev_mst1, OD.ev_msl, OD.ev_msl1, OD.ev_msl2, OD.ev_mscr, OD.ev_ent, OD.ev_ent1, OD.ev_zip, OD.ev_zip1, OD.ev_zip2, OD.ev_rg, OD.ev_lc, OD.ev_for, OD.ev_ext, OD.ev_ext1, List.getElem?_cons_zero, List.getElem?_cons_succ, List.set_cons_zero, List.set_cons_succ, List.replicate_succ, List.replicate_zero, List.map_cons, List.map_nil, List.length_cons, List.length_nil, List.cons_append, List.nil_append, List.append_nil, Nat.zero_add, Nat.reduceAdd, Nat.reduceSub, Nat.sub_self, OD.ix_tup at0, OD.ix_tup at1, ev_m1 isTy_str, q, e1, add_str s2, add_str s3, OD.ix_str s6 at0, ev_tup1 z0, en, he, Bool.not_false, add_str (s4 _), txs, if_true, if_neg hx]
        · simp only [b__law_kind_word, OD.ev_bind, OD.ev_bindx, OD.ev_st, OD.ev_stx, OD.ev_nox, OD.ev_seq, OD.ev_seqr, OD.ev_seqx, OD.ev_lift, OD.ev_var, OD.ev_var1, OD.ev_k, OD.ev_op, OD.ev_op1, OD.ev_op2, OD.ev_un, OD.ev_un1, OD.ev_nil, OD.ev_cons, OD.ev_cons1, OD.ev_cons2, OD.ev_tup, OD.ev_tup1, OD.ev_lst, OD.ev_lst1, OD.ev_b, OD.ev_bl, OD.ev_b1, OD.ev_new, OD.ev_new1, OD.ev_m, OD.ev_m1, OD.ev_m2, OD.ev_and, OD.ev_andt, OD.ev_andf, OD.ev_or, OD.ev_ort, OD.ev_orf, OD.ev_not, OD.ev_not1, OD.ev_if, OD.ev_ift, OD.ev_iff, OD.ev_asb, OD.ev_asb1, OD.ev_tand, OD.ev_tandt, OD.ev_tandf, OD.ev_tor, OD.ev_tort, OD.ev_torf, OD.ev_tnot, OD.ev_tnot1, OD.ev_tru, OD.ev_tru1, OD.ev_o, OD.ev_is, OD.ev_is1, OD.ev_is2, OD.ev_ch, OD.ev_ch1, OD.ev_ch2, OD.ev_ch3t, OD.ev_ch3f, OD.ev_ch4, OD.ev_sl, OD.ev_sl1, OD.ev_sl2, OD.ev_sl3, OD.ev_on, OD.ev_os, OD.ev_os1, OD.ev_call, OD.ev_call1, OD.ev_asg, OD.ev_asg1, OD.ev_asgt, OD.ev_x, OD.ev_x1, OD.ev_r, OD.ev_r1, OD.ev_rn, OD.ev_skip, OD.ev_mseq, OD.ev_cont, OD.ev_break, OD.ev_ifs, OD.ev_ifst, OD.ev_ifsf, OD.ev_si, OD.ev_si1, OD.ev_si2, OD.ev_si3, OD.ev_si4, OD.ev_aug, OD.ev_aug0, OD.ev_aug1, OD.ev_aug2, OD.ev_fn, OD.ev_fnn, OD.ev_fnr, OD.ev_fnx, OD.ix_tup, OD.ix_lst, OD.ix_str, OD.at0, OD.at1, OD.at2, OD.at3, OD.len_tup, OD.len_scr, OD.len_lst, OD.int_int, OD.add_int, OD.add_tup, OD.sub_int, OD.eq_int, OD.eq_bl, OD.eq_str, OD.lt_int, OD.le_int, OD.gt_int, OD.ge_int, OD.mod_int, OD.div_int, OD.mul_int, OD.ev_wh, OD.ev_whf, OD.ev_wht, OD.ev_wen, OD.ev_wer, OD.ev_mst, OD.ev_mst1, OD.ev_msl, OD.ev_msl1, OD.ev_msl2, OD.ev_mscr, OD.ev_ent, OD.ev_ent1, OD.ev_zip, OD.ev_zip1, OD.ev_zip2, OD.ev_rg, OD.ev_lc, OD.ev_for, OD.ev_ext, OD.ev_ext1, List.getElem?_cons_zero, List.getElem?_cons_succ, List.set_cons_zero, List.set_cons_succ, List.replicate_succ, List.replicate_zero, List.map_cons, List.map_nil, List.length_cons, List.length_nil, List.cons_append, List.nil_append, List.append_nil, Nat.zero_add, Nat.reduceAdd, Nat.reduceSub, Nat.sub_self, OD.ix_tup at0, OD.ix_tup at1, ev_m1 isTy_str, q, e1, add_str s2, add_str s3, OD.ix_str s6 at1, ev_tup1 z0, en, he, Bool.not_false, add_str (s4 _), txs, if_neg i1n, if_neg hx]
theorem text_ok {L : Nat} {S : Sto} {u : U} (g : Gd L S u) (h : ik u = true) : ∃ S', d_kind_text [u] S = .ok (.str (tx 8 u)) S' ∧ App S S' := by
  obtain ⟨S1, q, a⟩ := check_ok g h
  obtain ⟨S2, q2, a2⟩ := ktext_ok 8 u (kd_ik h) (by decide) 10 (by decide) S1
  refine ⟨S2, ?_, a.trans a2⟩
  unfold d_kind_text b_kind_text
  simp only [OD.ev_bind, OD.ev_bindx, OD.ev_st, OD.ev_stx, OD.ev_nox, OD.ev_seq, OD.ev_seqr, OD.ev_seqx, OD.ev_lift, OD.ev_var, OD.ev_var1, OD.ev_k, OD.ev_op, OD.ev_op1, OD.ev_op2, OD.ev_un, OD.ev_un1, OD.ev_nil, OD.ev_cons, OD.ev_cons1, OD.ev_cons2, OD.ev_tup, OD.ev_tup1, OD.ev_lst, OD.ev_lst1, OD.ev_b, OD.ev_bl, OD.ev_b1, OD.ev_new, OD.ev_new1, OD.ev_m, OD.ev_m1, OD.ev_m2, OD.ev_and, OD.ev_andt, OD.ev_andf, OD.ev_or, OD.ev_ort, OD.ev_orf, OD.ev_not, OD.ev_not1, OD.ev_if, OD.ev_ift, OD.ev_iff, OD.ev_asb, OD.ev_asb1, OD.ev_tand, OD.ev_tandt, OD.ev_tandf, OD.ev_tor, OD.ev_tort, OD.ev_torf, OD.ev_tnot, OD.ev_tnot1, OD.ev_tru, OD.ev_tru1, OD.ev_o, OD.ev_is, OD.ev_is1, OD.ev_is2, OD.ev_ch, OD.ev_ch1, OD.ev_ch2, OD.ev_ch3t, OD.ev_ch3f, OD.ev_ch4, OD.ev_sl, OD.ev_sl1, OD.ev_sl2, OD.ev_sl3, OD.ev_on, OD.ev_os, OD.ev_os1, OD.ev_call, OD.ev_call1, OD.ev_asg, OD.ev_asg1, OD.ev_asgt, OD.ev_x, OD.ev_x1, OD.ev_r, OD.ev_r1, OD.ev_rn, OD.ev_skip, OD.ev_mseq, OD.ev_cont, OD.ev_break, OD.ev_ifs, OD.ev_ifst, OD.ev_ifsf, OD.ev_si, OD.ev_si1, OD.ev_si2, OD.ev_si3, OD.ev_si4, OD.ev_aug, OD.ev_aug0, OD.ev_aug1, OD.ev_aug2, OD.ev_fn, OD.ev_fnn, OD.ev_fnr, OD.ev_fnx, OD.ix_tup, OD.ix_lst, OD.ix_str, OD.at0, OD.at1, OD.at2, OD.at3, OD.len_tup, OD.len_scr, OD.len_lst, OD.int_int, OD.add_int, OD.add_tup, OD.sub_int, OD.eq_int, OD.eq_bl, OD.eq_str, OD.lt_int, OD.le_int, OD.gt_int, OD.ge_int, OD.mod_int, OD.div_int, OD.mul_int, OD.ev_wh, OD.ev_whf, OD.ev_wht, OD.ev_wen, OD.ev_wer, OD.ev_mst, OD.ev_mst1, OD.ev_msl, OD.ev_msl1, OD.ev_msl2, OD.ev_mscr, OD.ev_ent, OD.ev_ent1, OD.ev_zip, OD.ev_zip1, OD.ev_zip2, OD.ev_rg, OD.ev_lc, OD.ev_for, OD.ev_ext, OD.ev_ext1, List.getElem?_cons_zero, List.getElem?_cons_succ, List.set_cons_zero, List.set_cons_succ, List.replicate_succ, List.replicate_zero, List.map_cons, List.map_nil, List.length_cons, List.length_nil, List.cons_append, List.nil_append, List.append_nil, Nat.zero_add, Nat.reduceAdd, Nat.reduceSub, Nat.sub_self, ev_call1 (us := [u]) (n := 1) rfl, q, q2]
end K01
end

section
set_option Elab.async false
set_option linter.all false
set_option autoImplicit false
set_option maxRecDepth 100000
set_option maxHeartbeats 4000000
/-! the plain law of k01: knots -/
namespace K01
open PySem L2 OD
def ptsL (f : U → List (List Int)) : Nat → List U → List (List Int)
  | _, [] => []
  | i, x :: xs => (f x).map (fun p => (i : Int) :: p) ++ ptsL f (i + 1) xs
def pts : Nat → U → List (List Int)
  | 0, _ => []
  | n + 1, .tup [.int _, .tup xs] => [] :: ptsL (pts n) 0 xs
  | _ + 1, _ => []
theorem ptsL_perm {f g : U → List (List Int)} : ∀ (xs : List U) (i : Nat), (∀ x, x ∈ xs → (f x).Perm (g x)) → (ptsL f i xs).Perm (ptsL g i xs)
  | [], _, _ => .refl _
  | x :: xs, i, h => ((h x (by simp)).map _).append (ptsL_perm xs (i + 1) fun y hy => h y (by simp [hy]))
theorem ptsL_len {f : U → List (List Int)} {B : Nat} : ∀ (xs : List U) (i : Nat), (∀ x, x ∈ xs → (f x).length ≤ B) → (ptsL f i xs).length ≤ xs.length * B
  | [], _, _ => by simp [ptsL]
  | x :: xs, i, h => by
    have h1 := h x (by simp)
    have h2 := ptsL_len xs (i + 1) fun y hy => h y (by simp [hy])
    simp only [ptsL, List.length_append, List.length_map, List.length_cons]
    rw [Nat.add_mul]
    omega
theorem pts_len : ∀ {n : Nat} {u : U}, Kd n u → (pts n u).length ≤ 4 ^ n
  | _, _, .mk (n := n) (xs := xs) hi hl h => by
    have h1 := ptsL_len (f := pts n) (B := 4 ^ n) xs 0 fun x hx => pts_len (h x hx)
    have h2 : xs.length * 4 ^ n ≤ 3 * 4 ^ n := Nat.mul_le_mul_right _ hl
    have h3 : 4 ^ 0 ≤ 4 ^ n := Nat.pow_le_pow_right (show 0 < 4 by decide) (Nat.zero_le n)
    rw [Nat.pow_zero] at h3
    show ([] :: ptsL (pts n) 0 xs).length ≤ _
    rw [List.length_cons, Nat.pow_succ]
    omega
theorem pts_small {n : Nat} {u : U} (h : Kd n u) (hn : n ≤ 8) : (pts n u).length ≤ 65536 := by
  have h1 := pts_len h
  have h2 : (4 : Nat) ^ n ≤ 4 ^ 8 := Nat.pow_le_pow_right (by decide) hn
  have h3 : (4 : Nat) ^ 8 = 65536 := by decide
  omega
theorem ints_ofs : ∀ k : List Int, intsOf (k.map U.int) = some k
  | [] => rfl
  | x :: k => by
    show (intsOf (k.map U.int)).map (x :: ·) = _
    rw [ints_ofs k]
    rfl
theorem tups_of : ∀ ks : List (List Int), tupsK (ks.map kTup) = some ks
  | [] => rfl
  | k :: ks => by
    show (match tupK (kTup k), tupsK (ks.map kTup) with
      | some k, some ks => some (k :: ks)
      | _, _ => none) = _
    rw [tups_of ks, show tupK (kTup k) = some k from ints_ofs k]
theorem sort_ok {S : Sto} {j : Nat} {ks : List (List Int)} (h : S[j]? = some (.lst (([] :: ks).map kTup))) : fSort [.ref j] S = some (.ref S.length, S ++ [.lst ((sortK ([] :: ks)).map kTup)]) := by
  unfold fSort
  simp only [h, tups_of]
theorem sortK_congr {a b : List (List Int)} (h : a.Perm b) : sortK a = sortK b := srt_unique (((sortK_perm a).trans h).trans (sortK_perm b).symm) (sortK_srt a) (sortK_srt b)
theorem pl_kTup (k : List Int) (h : k.length ≤ 100000) : Pl 1 (kTup k) := .tup (by simpa using h) fun x hx => by
  obtain ⟨i, _, rfl⟩ := List.mem_map.mp hx
  exact .int i
/-- the body of the law's walk -/
abbrev bKN (D : FM) : SM := (mExpr (mExt (mVar 1) (mLc (msL (mCall 1 D (mCons (mVar 3) mNil))) (.nm 4) [4] mYes (mOp fAdd (mTup (mCons (mVar 2) mNil)) (mVar 4)))))
theorem one_line {a : U} : ([a] : List U).length ≤ sizeLine := by
  show 1 ≤ sizeLine
  decide
theorem kn_item {D : FM} {S : Sto} {j : Nat} {acc : List (List Int)} {ks : List (List Int)} {u x v4 : Option U} {i : Nat} {y : U} (h : S[j]? = some (.lst (acc.map kTup))) (hD : ∃ S' q, D [y] S = .ok (.ref q) S' ∧ App S S' ∧ S'[q]? = some (.lst (ks.map kTup))) (hz : acc.length + ks.length ≤ 1000000) (hk : ∀ k, k ∈ ks → k.length ≤ 1000) :
    ∃ S', bKN D [u, some (.ref j), some (.int i), some y, v4] S = .nx [u, some (.ref j), some (.int i), some y, v4] S' ∧ AppJ j S S' ∧ S'[j]? = some (.lst ((acc ++ ks.map (fun p => (i : Int) :: p)).map kTup)) := by
  obtain ⟨S1, q, h1, a1, h2⟩ := hD
  have hj := a1.get h
  obtain ⟨S2, q2, a2⟩ := lc_app (t := .nm 4) (vs := [4]) (x := .cel q) (us := ks.map kTup) (S := S1) (e := [u, some (.ref j), some (.int i), some y, v4]) (te := mOp fAdd (mTup (mCons (mVar 2) mNil)) (mVar 4)) (r := fun z => match z with
      | .tup xs => .tup (.int i :: xs)
      | z => z) (fun S' a => by
        unfold srcAt
        simp only [a.get h2]) (by rw [List.length_map, size_is]; omega) fun z hz => by
    obtain ⟨k, hkm, rfl⟩ := List.mem_map.mp hz
    refine ⟨[u, some (.ref j), some (.int i), some y, some (kTup k)], rfl, fun S3 a3 => ⟨S3, ?_, .refl⟩⟩
    have hl := hk k hkm
    have ea : fAdd (.tup [.int i]) (.tup (k.map U.int)) S3 = some (.tup ([.int i] ++ k.map U.int), S3) := OD.add_tup (by rw [size_is]; simp; omega)
    simp only [OD.ev_bind, OD.ev_bindx, OD.ev_st, OD.ev_stx, OD.ev_nox, OD.ev_seq, OD.ev_seqr, OD.ev_seqx, OD.ev_lift, OD.ev_var, OD.ev_var1, OD.ev_k, OD.ev_op, OD.ev_op1, OD.ev_op2, OD.ev_un, OD.ev_un1, OD.ev_nil, OD.ev_cons, OD.ev_cons1, OD.ev_cons2, OD.ev_tup, OD.ev_tup1, OD.ev_lst, OD.ev_lst1, OD.ev_b, OD.ev_bl, OD.ev_b1, OD.ev_new, OD.ev_new1, OD.ev_m, OD.ev_m1, OD.ev_m2, OD.ev_and, OD.ev_andt, OD.ev_andf, OD.ev_or, OD.ev_ort, OD.ev_orf, OD.ev_not, OD.ev_not1, OD.ev_if, OD.ev_ift, OD.ev_iff, OD.ev_asb, OD.ev_asb1, OD.ev_tand, OD.ev_tandt, OD.ev_tandf, OD.ev_tor, OD.ev_tort, OD.ev_torf, OD.ev_tnot, OD.ev_tnot1, OD.ev_tru, OD.ev_tru1, OD.ev_o, OD.ev_is, OD.ev_is1, OD.ev_is2, OD.ev_ch, OD.ev_ch1, OD.ev_ch2, OD.ev_ch3t, OD.ev_ch3f, OD.ev_ch4, OD.ev_sl, OD.ev_sl1, OD.ev_sl2, OD.ev_sl3, OD.ev_on, OD.ev_os, OD.ev_os1, OD.ev_call, OD.ev_call1, OD.ev_asg, OD.ev_asg1, OD.ev_asgt, OD.ev_x, OD.ev_x1, OD.ev_r, OD.ev_r1, OD.ev_rn, OD.ev_skip, OD.ev_mseq, OD.ev_cont, OD.ev_break, OD.ev_ifs, OD.ev_ifst, OD.ev_ifsf, OD.ev_si, OD.ev_si1, OD.ev_si2, OD.ev_si3, OD.ev_si4, OD.ev_aug, OD.ev_aug0, OD.ev_aug1, OD.ev_aug2, OD.ev_fn, OD.ev_fnn, OD.ev_fnr, OD.ev_fnx, OD.ix_tup, OD.ix_lst, OD.ix_str, OD.at0, OD.at1, OD.at2, OD.at3, OD.len_tup, OD.len_scr, OD.len_lst, OD.int_int, OD.add_int, OD.add_tup, OD.sub_int, OD.eq_int, OD.eq_bl, OD.eq_str, OD.lt_int, OD.le_int, OD.gt_int, OD.ge_int, OD.mod_int, OD.div_int, OD.mul_int, OD.ev_wh, OD.ev_whf, OD.ev_wht, OD.ev_wen, OD.ev_wer, OD.ev_mst, OD.ev_mst1, OD.ev_msl, OD.ev_msl1, OD.ev_msl2, OD.ev_mscr, OD.ev_ent, OD.ev_ent1, OD.ev_zip, OD.ev_zip1, OD.ev_zip2, OD.ev_rg, OD.ev_lc, OD.ev_for, OD.ev_ext, OD.ev_ext1, List.getElem?_cons_zero, List.getElem?_cons_succ, List.set_cons_zero, List.set_cons_succ, List.replicate_succ, List.replicate_zero, List.map_cons, List.map_nil, List.length_cons, List.length_nil, List.cons_append, List.nil_append, List.append_nil, Nat.zero_add, Nat.reduceAdd, Nat.reduceSub, Nat.sub_self, ev_tup1 one_line, kTup, ea]
  have er : (ks.map kTup).map (fun z => match z with
      | .tup xs => .tup (.int (i : Int) :: xs)
      | z => z) = (ks.map (fun p => (i : Int) :: p)).map kTup := by
    rw [List.map_map, List.map_map]
    rfl
  have hj2 := a2.get hj
  have hjl : j < S2.length := (List.getElem?_eq_some_iff.mp hj2).1
  refine ⟨S2.set j (.lst ((acc ++ ks.map (fun p => (i : Int) :: p)).map kTup)), ?_, ⟨?_, fun k h3 h4 => ?_⟩, List.getElem?_set_self hjl⟩
  · have ez : cExt2 (.ref j) ((ks.map (fun p => (i : Int) :: p)).map kTup) S2 = .ok .non (S2.set j (.lst (acc.map kTup ++ (ks.map (fun p => (i : Int) :: p)).map kTup))) := ext_run hj2 (by rw [size_is]; simp; omega)
    rw [List.map_append]
    simp only [OD.ev_bind, OD.ev_bindx, OD.ev_st, OD.ev_stx, OD.ev_nox, OD.ev_seq, OD.ev_seqr, OD.ev_seqx, OD.ev_lift, OD.ev_var, OD.ev_var1, OD.ev_k, OD.ev_op, OD.ev_op1, OD.ev_op2, OD.ev_un, OD.ev_un1, OD.ev_nil, OD.ev_cons, OD.ev_cons1, OD.ev_cons2, OD.ev_tup, OD.ev_tup1, OD.ev_lst, OD.ev_lst1, OD.ev_b, OD.ev_bl, OD.ev_b1, OD.ev_new, OD.ev_new1, OD.ev_m, OD.ev_m1, OD.ev_m2, OD.ev_and, OD.ev_andt, OD.ev_andf, OD.ev_or, OD.ev_ort, OD.ev_orf, OD.ev_not, OD.ev_not1, OD.ev_if, OD.ev_ift, OD.ev_iff, OD.ev_asb, OD.ev_asb1, OD.ev_tand, OD.ev_tandt, OD.ev_tandf, OD.ev_tor, OD.ev_tort, OD.ev_torf, OD.ev_tnot, OD.ev_tnot1, OD.ev_tru, OD.ev_tru1, OD.ev_o, OD.ev_is, OD.ev_is1, OD.ev_is2, OD.ev_ch, OD.ev_ch1, OD.ev_ch2, OD.ev_ch3t, OD.ev_ch3f, OD.ev_ch4, OD.ev_sl, OD.ev_sl1, OD.ev_sl2, OD.ev_sl3, OD.ev_on, OD.ev_os, OD.ev_os1, OD.ev_call, OD.ev_call1, OD.ev_asg, OD.ev_asg1, OD.ev_asgt, OD.ev_x, OD.ev_x1, OD.ev_r, OD.ev_r1, OD.ev_rn, OD.ev_skip, OD.ev_mseq, OD.ev_cont, OD.ev_break, OD.ev_ifs, OD.ev_ifst, OD.ev_ifsf, OD.ev_si, OD.ev_si1, OD.ev_si2, OD.ev_si3, OD.ev_si4, OD.ev_aug, OD.ev_aug0, OD.ev_aug1, OD.ev_aug2, OD.ev_fn, OD.ev_fnn, OD.ev_fnr, OD.ev_fnx, OD.ix_tup, OD.ix_lst, OD.ix_str, OD.at0, OD.at1, OD.at2, OD.at3, OD.len_tup, OD.len_scr, OD.len_lst, OD.int_int, OD.add_int, OD.add_tup, OD.sub_int, OD.eq_int, OD.eq_bl, OD.eq_str, OD.lt_int, OD.le_int, OD.gt_int, OD.ge_int, OD.mod_int, OD.div_int, OD.mul_int, OD.ev_wh, OD.ev_whf, OD.ev_wht, OD.ev_wen, OD.ev_wer, OD.ev_mst, OD.ev_mst1, OD.ev_msl, OD.ev_msl1, OD.ev_msl2, OD.ev_mscr, OD.ev_ent, OD.ev_ent1, OD.ev_zip, OD.ev_zip1, OD.ev_zip2, OD.ev_rg, OD.ev_lc, OD.ev_for, OD.ev_ext, OD.ev_ext1, List.getElem?_cons_zero, List.getElem?_cons_succ, List.set_cons_zero, List.set_cons_succ, List.replicate_succ, List.replicate_zero, List.map_cons, List.map_nil, List.length_cons, List.length_nil, List.cons_append, List.nil_append, List.append_nil, Nat.zero_add, Nat.reduceAdd, Nat.reduceSub, Nat.sub_self, ev_ext1 (isTy_lst h), ev_call1 (us := [y]) (n := 1) rfl, h1, h2, q2, er, ez]
  · have := a1.len
    have := a2.len
    simp
    omega
  · rw [List.getElem?_set_ne (Ne.symm h3)]
    exact (App.trans a1 a2).same k h4
theorem pts_depth : ∀ (n : Nat) (u : U), Kd n u → ∀ p, p ∈ pts n u → p.length ≤ n
  | 0, u, h, p, hp => by cases hp
  | n + 1, u, h, p, hp => by
    cases h with
    | @mk _ i xs hi hl h =>
      have key : ∀ (ys : List U) (i : Nat), (∀ y, y ∈ ys → Kd n y) → ∀ p, p ∈ ptsL (pts n) i ys → p.length ≤ n + 1 := by
        intro ys
        induction ys with
        | nil => intro i h p hp; cases hp
        | cons y ys ih =>
          intro i h p hp
          rcases List.mem_append.mp hp with q | q
          · obtain ⟨k, hk, rfl⟩ := List.mem_map.mp q
            have := pts_depth n y (h y (by simp)) k hk
            simp
            exact this
          · exact ih (i + 1) (fun z hz => h z (by simp [hz])) p q
      rcases List.mem_cons.mp hp with rfl | hp
      · simp
      · exact key xs 0 h p hp
theorem kn_for {D : FM} {n j : Nat} {u : Option U} (hn : n ≤ 8) (hD : ∀ y, Kd n y → ∀ S, ∃ S' q, D [y] S = .ok (.ref q) S' ∧ App S S' ∧ S'[q]? = some (.lst ((sortK (pts n y)).map kTup))) :
    ∀ (xs : List U) (i : Nat) (acc : List (List Int)) (v2 v3 v4 : Option U) (S : Sto), (∀ x, x ∈ xs → Kd n x) → S[j]? = some (.lst (acc.map kTup)) → acc.length + xs.length * 65536 ≤ 1000000 →
      ∃ w2 w3 w4 S', forL (.tp [2, 3]) (bKN D) (enumU i xs) [u, some (.ref j), v2, v3, v4] S = .nx [u, some (.ref j), w2, w3, w4] S' ∧ AppJ j S S' ∧ S'[j]? = some (.lst ((acc ++ ptsL (fun x => sortK (pts n x)) i xs).map kTup))
  | [], i, acc, v2, v3, v4, S, hk, h, hz => ⟨v2, v3, v4, S, rfl, .refl, by rw [show ptsL (fun x => sortK (pts n x)) i [] = [] from rfl, List.append_nil]; exact h⟩
  | y :: ys, i, acc, v2, v3, v4, S, hk, h, hz => by
    have hy := hk y (by simp)
    have hl : (sortK (pts n y)).length ≤ 65536 := by rw [(sortK_perm _).length_eq]; exact pts_small hy hn
    rw [List.length_cons, Nat.add_mul] at hz
    obtain ⟨S1, h1, a1, h2⟩ := kn_item (u := u) (x := none) (v4 := v4) (i := i) (y := y) (ks := sortK (pts n y)) h (hD y hy S) (by omega) fun k hk => by
      have := pts_depth n y hy k ((sortK_perm _).mem_iff.mp hk)
      omega
    obtain ⟨w2, w3, w4, S2, h3, a2, h4⟩ := kn_for hn hD ys (i + 1) (acc ++ (sortK (pts n y)).map fun p => (i : Int) :: p) (some (.int i)) (some y) v4 S1 (fun z hz => hk z (by simp [hz])) h2 (by rw [List.length_append, List.length_map]; omega)
    refine ⟨w2, w3, w4, S2, ?_, a1.trans a2, ?_⟩
    · show forL (.tp [2, 3]) (bKN D) (.tup [.int (i : Nat), y] :: enumU (i + 1) ys) _ S = _
      rw [forL_cons (e2 := [u, some (.ref j), some (.int i), some y, v4]) rfl, h1]
      exact h3
    · rw [h4]
      simp only [ptsL, List.append_assoc]
theorem law_knots_ok : ∀ (n : Nat) (u : U), Kd n u → n ≤ 8 → ∀ (m : Nat), n ≤ m → ∀ S : Sto, ∃ S' q, d__law_knots m [u] S = .ok (.ref q) S' ∧ App S S' ∧ S'[q]? = some (.lst ((sortK (pts n u)).map kTup))
  | 0, u, p, hn, m, hm, S => by cases p
  | n + 1, u, p, hn, 0, hm, S => absurd hm (by omega)
  | n + 1, u, p, hn, m + 1, hm, S => by
    cases p with
    | @mk _ i xs hi hl h =>
      show ∃ S' q, fnD 5 (b__law_knots (d__law_knots m)) [.tup [.int i, .tup xs]] S = .ok (.ref q) S' ∧ App S S' ∧ S'[q]? = _
      have e0 : (S ++ [Cell.lst [.tup []]])[S.length]? = some (.lst ((([[]] : List (List Int))).map kTup)) := last_get
      obtain ⟨w2, w3, w4, S1, h1, a1, h2⟩ := kn_for (D := d__law_knots m) (n := n) (u := some (.tup [.int i, .tup xs])) (by omega) (fun y hy S => law_knots_ok n y hy (by omega) m (by omega) S) xs 0 [[]] none none none (S ++ [Cell.lst [.tup []]]) h e0 (by simp; omega)
      have e2 : S1[S.length]? = some (.lst (([] :: ptsL (fun x => sortK (pts n x)) 0 xs).map kTup)) := h2
      have e3 := sort_ok e2
      have e4 : sortK ([] :: ptsL (fun x => sortK (pts n x)) 0 xs) = sortK (pts (n + 1) (.tup [.int i, .tup xs])) := sortK_congr ((ptsL_perm xs 0 fun x _ => sortK_perm _).cons [])
      have z0 : ([] : List U).length ≤ sizeLine := by rw [size_is]; simp
      refine ⟨S1 ++ [Cell.lst ((sortK ([] :: ptsL (fun x => sortK (pts n x)) 0 xs)).map kTup)], S1.length, ?_, a1.out.trans .app, by rw [← e4]; exact last_get⟩
      simp only [b__law_knots, OD.ev_bind, OD.ev_bindx, OD.ev_st, OD.ev_stx, OD.ev_nox, OD.ev_seq, OD.ev_seqr, OD.ev_seqx, OD.ev_lift, OD.ev_var, OD.ev_var1, OD.ev_k, OD.ev_op, OD.ev_op1, OD.ev_op2, OD.ev_un, OD.ev_un1, OD.ev_nil, OD.ev_cons, OD.ev_cons1, OD.ev_cons2, OD.ev_tup, OD.ev_tup1, OD.ev_lst, OD.ev_lst1, OD.ev_b, OD.ev_bl, OD.ev_b1, OD.ev_new, OD.ev_new1, OD.ev_m, OD.ev_m1, OD.ev_m2, OD.ev_and, OD.ev_andt, OD.ev_andf, OD.ev_or, OD.ev_ort, OD.ev_orf, OD.ev_not, OD.ev_not1, OD.ev_if, OD.ev_ift, OD.ev_iff, OD.ev_asb, OD.ev_asb1, OD.ev_tand, OD.ev_tandt, OD.ev_tandf, OD.ev_tor, OD.ev_tort, OD.ev_torf, OD.ev_tnot, OD.ev_tnot1, OD.ev_tru, OD.ev_tru1, OD.ev_o, OD.ev_is, OD.ev_is1, OD.ev_is2, OD.ev_ch, OD.ev_ch1, OD.ev_ch2, OD.ev_ch3t, OD.ev_ch3f, OD.ev_ch4, OD.ev_sl, OD.ev_sl1, OD.ev_sl2, OD.ev_sl3, OD.ev_on, OD.ev_os, OD.ev_os1, OD.ev_call, OD.ev_call1, OD.ev_asg, OD.ev_asg1, OD.ev_asgt, OD.ev_x, OD.ev_x1, OD.ev_r, OD.ev_r1, OD.ev_rn, OD.ev_skip, OD.ev_mseq, OD.ev_cont, OD.ev_break, OD.ev_ifs, OD.ev_ifst, OD.ev_ifsf, OD.ev_si, OD.ev_si1, OD.ev_si2, OD.ev_si3, OD.ev_si4, OD.ev_aug, OD.ev_aug0, OD.ev_aug1, OD.ev_aug2, OD.ev_fn, OD.ev_fnn, OD.ev_fnr, OD.ev_fnx, OD.ix_tup, OD.ix_lst, OD.ix_str, OD.at0, OD.at1, OD.at2, OD.at3, OD.len_tup, OD.len_scr, OD.len_lst, OD.int_int, OD.add_int, OD.add_tup, OD.sub_int, OD.eq_int, OD.eq_bl, OD.eq_str, OD.lt_int, OD.le_int, OD.gt_int, OD.ge_int, OD.mod_int, OD.div_int, OD.mul_int, OD.ev_wh, OD.ev_whf, OD.ev_wht, OD.ev_wen, OD.ev_wer, OD.ev_mst, OD.ev_mst1, OD.ev_msl, OD.ev_msl1, OD.ev_msl2, OD.ev_mscr, OD.ev_ent, OD.ev_ent1, OD.ev_zip, OD.ev_zip1, OD.ev_zip2, OD.ev_rg, OD.ev_lc, OD.ev_for, OD.ev_ext, OD.ev_ext1, List.getElem?_cons_zero, List.getElem?_cons_succ, List.set_cons_zero, List.set_cons_succ, List.replicate_succ, List.replicate_zero, List.map_cons, List.map_nil, List.length_cons, List.length_nil, List.cons_append, List.nil_append, List.append_nil, Nat.zero_add, Nat.reduceAdd, Nat.reduceSub, Nat.sub_self, ev_tup1 z0, ev_lst1 one_line, OD.ix_tup at1, for_its, h1, e3]
end K01
end

section
set_option Elab.async false
set_option linter.all false
set_option autoImplicit false
set_option maxRecDepth 100000
set_option maxHeartbeats 4000000
/-! the plain law of k01: the program's knots -/
namespace K01
open PySem L2 OD
theorem ptsL_congr {f g : U → List (List Int)} : ∀ (xs : List U) (i : Nat), (∀ x, x ∈ xs → f x = g x) → ptsL f i xs = ptsL g i xs
  | [], _, _ => rfl
  | x :: xs, i, h => by
    simp only [ptsL]
    rw [h x (by simp), ptsL_congr xs (i + 1) fun y hy => h y (by simp [hy])]
theorem pts_up : ∀ (n : Nat) (u : U), Kd n u → pts (n + 1) u = pts n u
  | 0, u, h => by cases h
  | n + 1, u, h => by
    cases h with
    | @mk _ i xs hi hl h =>
      show [] :: ptsL (pts (n + 1)) 0 xs = [] :: ptsL (pts n) 0 xs
      rw [ptsL_congr xs 0 fun x hx => pts_up n x (h x hx)]
abbrev P8 : U → List (List Int) := pts 8
theorem P8_mk {i : Int} {xs : List U} (h : Kd 8 (.tup [.int i, .tup xs])) : P8 (.tup [.int i, .tup xs]) = [] :: ptsL P8 0 xs := by
  cases h with
  | mk hi hl h =>
    show [] :: ptsL (pts 7) 0 xs = _
    rw [ptsL_congr xs 0 fun x hx => (pts_up 7 x (h x hx)).symm]
def allP : List (List Int × U) → List (List Int)
  | [] => []
  | w :: ws => (P8 w.2).map (fun q => w.1 ++ q) ++ allP ws
theorem allP_app : ∀ (a b : List (List Int × U)), allP (a ++ b) = allP a ++ allP b
  | [], _ => rfl
  | w :: a, b => by
    simp only [List.cons_append, allP]
    rw [allP_app a b, List.append_assoc]
def kids (p : List Int) : Nat → List U → List (List Int × U)
  | _, [] => []
  | i, x :: xs => (p ++ [(i : Int)], x) :: kids p (i + 1) xs
theorem allP_kids (p : List Int) : ∀ (xs : List U) (i : Nat), allP (kids p i xs) = (ptsL P8 i xs).map fun q => p ++ q
  | [], _ => rfl
  | x :: xs, i => by
    simp only [kids, allP, ptsL, List.map_append, List.map_map]
    rw [allP_kids p xs (i + 1)]
    congr 1
    refine List.map_congr_left fun q _ => ?_
    simp
abbrev pk (w : List Int × U) : U := .tup [kTup w.1, w.2]
theorem kids_mem {p : List Int} : ∀ {xs : List U} {i : Nat} {w : List Int × U}, w ∈ kids p i xs → w.2 ∈ xs ∧ w.1.length = p.length + 1
  | [], _, _, h => by cases h
  | x :: xs, i, w, h => by
    rcases List.mem_cons.mp h with rfl | h
    · exact ⟨by simp, by simp⟩
    · obtain ⟨h1, h2⟩ := kids_mem h
      exact ⟨by simp [h1], h2⟩
theorem kids_enum (p : List Int) : ∀ (xs : List U) (i : Nat), (enumU i xs).map (fun z => match z with
      | .tup [.int k, x] => pk (p ++ [k], x)
      | z => z) = (kids p i xs).map pk
  | [], _ => rfl
  | x :: xs, i => by
    simp only [enumU, kids, List.map_cons]
    rw [kids_enum p xs (i + 1)]
theorem enum_mem : ∀ {xs : List U} {i : Nat} {z : U}, z ∈ enumU i xs → ∃ (k : Nat) (x : U), z = .tup [.int (k : Int), x]
  | [], _, _, h => by cases h
  | x :: xs, i, z, h => by
    rcases List.mem_cons.mp h with rfl | h
    · exact ⟨i, x, rfl⟩
    · exact enum_mem h
abbrev tKO : EM Bool := (asB (mOp fGt (mB fLen (mCons (mVar 2) mNil)) (mK (.int 0))))
abbrev bKO : SM := (mSeq (mAsg (.tp [3, 4]) (mM 0 fPop (mVar 2) mNil))
  (mSeq (mExpr (mM 0 fAppend (mVar 1) (mCons (mVar 3) mNil)))
  (mExpr (mExt (mVar 2) (mLc (msEnT (mCons (mOp fIx (mVar 4) (mK (.int 1))) mNil)) (.tp [5, 6]) [5, 6] mYes (mTup (mCons (mOp fAdd (mVar 3) (mTup (mCons (mVar 5) mNil))) (mCons (mVar 6) mNil))))))))
theorem append_ok {S : Sto} {j : Nat} {xs : List U} {z : U} (h : S[j]? = some (.lst xs)) (hz : xs.length < sizeLine) : fAppend (.ref j) [z] S = some (.non, S.set j (.lst (xs ++ [z]))) := by
  unfold fAppend
  simp only [h, if_pos hz]
theorem kid_items {S : Sto} {p : List Int} {xs : List U} {u f w h4 : Option U} (hp : p.length ≤ 200000) (hl : xs.length ≤ 3) : ∃ S', cLc (.tp [5, 6]) [5, 6] mYes (mTup (mCons (mOp fAdd (mVar 3) (mTup (mCons (mVar 5) mNil))) (mCons (mVar 6) mNil))) [u, f, w, some (kTup p), h4, none, none] (.its (enumU 0 xs)) S = .ok ((kids p 0 xs).map pk) S' ∧ App S S' := by
  obtain ⟨S', q, a⟩ := lc_app (t := .tp [5, 6]) (vs := [5, 6]) (x := .its (enumU 0 xs)) (us := enumU 0 xs) (S := S) (e := [u, f, w, some (kTup p), h4, none, none]) (te := mTup (mCons (mOp fAdd (mVar 3) (mTup (mCons (mVar 5) mNil))) (mCons (mVar 6) mNil))) (r := fun z => match z with
      | .tup [.int k, x] => pk (p ++ [k], x)
      | z => z) (fun _ _ => rfl) (by rw [enumU_len, size_is]; omega) fun z hz => by
    obtain ⟨k, x, rfl⟩ := enum_mem hz
    refine ⟨[u, f, w, some (kTup p), h4, some (.int k), some x], rfl, fun S1 a1 => ⟨S1, ?_, .refl⟩⟩
    have ea : fAdd (.tup (p.map U.int)) (.tup [.int (k : Int)]) S1 = some (.tup (p.map U.int ++ [.int (k : Int)]), S1) := OD.add_tup (by rw [size_is]; simp; omega)
    simp only [OD.ev_bind, OD.ev_bindx, OD.ev_st, OD.ev_stx, OD.ev_nox, OD.ev_seq, OD.ev_seqr, OD.ev_seqx, OD.ev_lift, OD.ev_var, OD.ev_var1, OD.ev_k, OD.ev_op, OD.ev_op1, OD.ev_op2, OD.ev_un, OD.ev_un1, OD.ev_nil, OD.ev_cons, OD.ev_cons1, OD.ev_cons2, OD.ev_tup, OD.ev_tup1, OD.ev_lst, OD.ev_lst1, OD.ev_b, OD.ev_bl, OD.ev_b1, OD.ev_new, OD.ev_new1, OD.ev_m, OD.ev_m1, OD.ev_m2, OD.ev_and, OD.ev_andt, OD.ev_andf, OD.ev_or, OD.ev_ort, OD.ev_orf, OD.ev_not, OD.ev_not1, OD.ev_if, OD.ev_ift, OD.ev_iff, OD.ev_asb, OD.ev_asb1, OD.ev_tand, OD.ev_tandt, OD.ev_tandf, OD.ev_tor, OD.ev_tort, OD.ev_torf, OD.ev_tnot, OD.ev_tnot1, OD.ev_tru, OD.ev_tru1, OD.ev_o, OD.ev_is, OD.ev_is1, OD.ev_is2, OD.ev_ch, OD.ev_ch1, OD.ev_ch2, OD.ev_ch3t, OD.ev_ch3f, OD.ev_ch4, OD.ev_sl, OD.ev_sl1, OD.ev_sl2, OD.ev_sl3, OD.ev_on, OD.ev_os, OD.ev_os1, OD.ev_call, OD.ev_call1, OD.ev_asg, OD.ev_asg1, OD.ev_asgt, OD.ev_x, OD.ev_x1, OD.ev_r, OD.ev_r1, OD.ev_rn, OD.ev_skip, OD.ev_mseq, OD.ev_cont, OD.ev_break, OD.ev_ifs, OD.ev_ifst, OD.ev_ifsf, OD.ev_si, OD.ev_si1, OD.ev_si2, OD.ev_si3, OD.ev_si4, OD.ev_aug, OD.ev_aug0, OD.ev_aug1, OD.ev_aug2, OD.ev_fn, OD.ev_fnn, OD.ev_fnr, OD.ev_fnx, OD.ix_tup, OD.ix_lst, OD.ix_str, OD.at0, OD.at1, OD.at2, OD.at3, OD.len_tup, OD.len_scr, OD.len_lst, OD.int_int, OD.add_int, OD.add_tup, OD.sub_int, OD.eq_int, OD.eq_bl, OD.eq_str, OD.lt_int, OD.le_int, OD.gt_int, OD.ge_int, OD.mod_int, OD.div_int, OD.mul_int, OD.ev_wh, OD.ev_whf, OD.ev_wht, OD.ev_wen, OD.ev_wer, OD.ev_mst, OD.ev_mst1, OD.ev_msl, OD.ev_msl1, OD.ev_msl2, OD.ev_mscr, OD.ev_ent, OD.ev_ent1, OD.ev_zip, OD.ev_zip1, OD.ev_zip2, OD.ev_rg, OD.ev_lc, OD.ev_for, OD.ev_ext, OD.ev_ext1, List.getElem?_cons_zero, List.getElem?_cons_succ, List.set_cons_zero, List.set_cons_succ, List.replicate_succ, List.replicate_zero, List.map_cons, List.map_nil, List.length_cons, List.length_nil, List.cons_append, List.nil_append, List.append_nil, Nat.zero_add, Nat.reduceAdd, Nat.reduceSub, Nat.sub_self, ev_tup1 one_line, kTup, ea, ev_tup1 two_line]
    show _ = Rs.ok (U.tup [U.tup ((p ++ [(k : Int)]).map U.int), x]) S1
    rw [List.map_append]
    rfl
  rw [kids_enum] at q
  exact ⟨S', q, a⟩
theorem allP_len : ∀ (ws : List (List Int × U)), (∀ w, w ∈ ws → Kd 8 w.2) → ws.length ≤ (allP ws).length
  | [], _ => Nat.le_refl _
  | w :: ws, h => by
    have h1 := allP_len ws fun x hx => h x (by simp [hx])
    have h2 : 1 ≤ (P8 w.2).length := by
      have := h w (by simp)
      generalize w.2 = x at this ⊢
      cases this with
      | mk _ _ _ => exact Nat.succ_le_succ (Nat.zero_le _)
    simp only [allP, List.length_append, List.length_map, List.length_cons]
    omega
theorem ko_loop {u : Option U} {j1 j2 : Nat} (hne : j1 ≠ j2) : ∀ (N : Nat) (ws : List (List Int × U)) (fs : List (List Int)) (v3 v4 : Option U) (S : Sto) (m B : Nat), S[j1]? = some (.lst (fs.map kTup)) → S[j2]? = some (.lst (ws.map pk)) → (∀ w, w ∈ ws → Kd 8 w.2 ∧ w.1.length ≤ B) →
    (allP ws).length ≤ N → B + N ≤ 150000 → fs.length + N ≤ 150000 → N < m →
    ∃ w3 w4 R S', whGo tKO bKO m [u, some (.ref j1), some (.ref j2), v3, v4, none, none] S = .nx [u, some (.ref j1), some (.ref j2), w3, w4, none, none] S' ∧ S'[j1]? = some (.lst ((fs ++ R).map kTup)) ∧ R.Perm (allP ws) ∧ (∀ W p x, ws = W ++ [(p, x)] → ∃ R', R = p :: R') ∧
      S.length ≤ S'.length ∧ ∀ i, i ≠ j1 → i ≠ j2 → i < S.length → S'[i]? = S[i]?
  | N, ws, fs, v3, v4, S, 0, B, e1, e2, hk, hN, hB, hf, hm => absurd hm (Nat.not_lt_zero N)
  | N, ws, fs, v3, v4, S, m + 1, B, e1, e2, hk, hN, hB, hf, hm => by
    have l1 : j1 < S.length := (List.getElem?_eq_some_iff.mp e1).1
    have l2 : j2 < S.length := (List.getElem?_eq_some_iff.mp e2).1
    rcases List.eq_nil_or_concat ws with rfl | ⟨W, w, hw⟩
    · refine ⟨v3, v4, [], S, ?_, by rw [List.append_nil]; exact e1, .refl _, fun W p x q => by simp at q, Nat.le_refl _, fun _ _ _ _ => rfl⟩
      have e3 : S[j2]? = some (.lst []) := e2
      simp only [OD.ev_bind, OD.ev_bindx, OD.ev_st, OD.ev_stx, OD.ev_nox, OD.ev_seq, OD.ev_seqr, OD.ev_seqx, OD.ev_lift, OD.ev_var, OD.ev_var1, OD.ev_k, OD.ev_op, OD.ev_op1, OD.ev_op2, OD.ev_un, OD.ev_un1, OD.ev_nil, OD.ev_cons, OD.ev_cons1, OD.ev_cons2, OD.ev_tup, OD.ev_tup1, OD.ev_lst, OD.ev_lst1, OD.ev_b, OD.ev_bl, OD.ev_b1, OD.ev_new, OD.ev_new1, OD.ev_m, OD.ev_m1, OD.ev_m2, OD.ev_and, OD.ev_andt, OD.ev_andf, OD.ev_or, OD.ev_ort, OD.ev_orf, OD.ev_not, OD.ev_not1, OD.ev_if, OD.ev_ift, OD.ev_iff, OD.ev_asb, OD.ev_asb1, OD.ev_tand, OD.ev_tandt, OD.ev_tandf, OD.ev_tor, OD.ev_tort, OD.ev_torf, OD.ev_tnot, OD.ev_tnot1, OD.ev_tru, OD.ev_tru1, OD.ev_o, OD.ev_is, OD.ev_is1, OD.ev_is2, OD.ev_ch, OD.ev_ch1, OD.ev_ch2, OD.ev_ch3t, OD.ev_ch3f, OD.ev_ch4, OD.ev_sl, OD.ev_sl1, OD.ev_sl2, OD.ev_sl3, OD.ev_on, OD.ev_os, OD.ev_os1, OD.ev_call, OD.ev_call1, OD.ev_asg, OD.ev_asg1, OD.ev_asgt, OD.ev_x, OD.ev_x1, OD.ev_r, OD.ev_r1, OD.ev_rn, OD.ev_skip, OD.ev_mseq, OD.ev_cont, OD.ev_break, OD.ev_ifs, OD.ev_ifst, OD.ev_ifsf, OD.ev_si, OD.ev_si1, OD.ev_si2, OD.ev_si3, OD.ev_si4, OD.ev_aug, OD.ev_aug0, OD.ev_aug1, OD.ev_aug2, OD.ev_fn, OD.ev_fnn, OD.ev_fnr, OD.ev_fnx, OD.ix_tup, OD.ix_lst, OD.ix_str, OD.at0, OD.at1, OD.at2, OD.at3, OD.len_tup, OD.len_scr, OD.len_lst, OD.int_int, OD.add_int, OD.add_tup, OD.sub_int, OD.eq_int, OD.eq_bl, OD.eq_str, OD.lt_int, OD.le_int, OD.gt_int, OD.ge_int, OD.mod_int, OD.div_int, OD.mul_int, OD.ev_wh, OD.ev_whf, OD.ev_wht, OD.ev_wen, OD.ev_wer, OD.ev_mst, OD.ev_mst1, OD.ev_msl, OD.ev_msl1, OD.ev_msl2, OD.ev_mscr, OD.ev_ent, OD.ev_ent1, OD.ev_zip, OD.ev_zip1, OD.ev_zip2, OD.ev_rg, OD.ev_lc, OD.ev_for, OD.ev_ext, OD.ev_ext1, List.getElem?_cons_zero, List.getElem?_cons_succ, List.set_cons_zero, List.set_cons_succ, List.replicate_succ, List.replicate_zero, List.map_cons, List.map_nil, List.length_cons, List.length_nil, List.cons_append, List.nil_append, List.append_nil, Nat.zero_add, Nat.reduceAdd, Nat.reduceSub, Nat.sub_self, len_lst e3, z_len0]
    · have hw : ws = W ++ [w] := by simpa using hw
      subst hw
      obtain ⟨p, x⟩ := w
      have hpx := hk (p, x) (by simp)
      obtain ⟨kx, hp⟩ := hpx
      have hp : p.length ≤ B := hp
      obtain ⟨i, xs, rfl⟩ : ∃ i xs, x = .tup [.int i, .tup xs] := by
        cases kx with
        | mk hi hl h => exact ⟨_, _, rfl⟩
      have hxs : xs.length ≤ 3 ∧ ∀ y, y ∈ xs → Kd 8 y := by
        cases kx with
        | mk hi hl h => exact ⟨hl, fun y hy => (h y hy).up⟩
      have eP := P8_mk kx
      have ea : allP (W ++ [(p, .tup [.int i, .tup xs])]) = allP W ++ (p :: (ptsL P8 0 xs).map fun q => p ++ q) := by
        rw [allP_app]
        show _ ++ ((P8 (.tup [.int i, .tup xs])).map (fun q => p ++ q) ++ []) = _
        rw [eP, List.append_nil, List.map_cons, List.append_nil]
      have hN2 := hN
      rw [ea] at hN2
      simp only [List.length_append, List.length_cons, List.length_map] at hN2
      have hWl := allP_len W fun w hw => (hk w (by simp [hw])).1
      -- the store, step by step
      have e2' : S[j2]? = some (.lst (W.map pk ++ [pk (p, .tup [.int i, .tup xs])])) := by rw [e2, List.map_append]; rfl
      have f1 : (S.set j2 (.lst (W.map pk)))[j1]? = some (.lst (fs.map kTup)) := by rw [List.getElem?_set_ne (Ne.symm hne)]; exact e1
      have f2 : (S.set j2 (.lst (W.map pk)))[j2]? = some (.lst (W.map pk)) := List.getElem?_set_self l2
      have g1 : ((S.set j2 (.lst (W.map pk))).set j1 (.lst (fs.map kTup ++ [kTup p])))[j1]? = some (.lst (fs.map kTup ++ [kTup p])) := List.getElem?_set_self (by rw [List.length_set]; exact l1)
      have g2 : ((S.set j2 (.lst (W.map pk))).set j1 (.lst (fs.map kTup ++ [kTup p])))[j2]? = some (.lst (W.map pk)) := by rw [List.getElem?_set_ne hne]; exact f2
      obtain ⟨S3, q3, a3⟩ := kid_items (S := (S.set j2 (.lst (W.map pk))).set j1 (.lst (fs.map kTup ++ [kTup p]))) (p := p) (xs := xs) (u := u) (f := some (.ref j1)) (w := some (.ref j2)) (h4 := some (.tup [.int i, .tup xs])) (by omega) hxs.1
      have k1 := a3.get g1
      have k2 := a3.get g2
      have l3 : j2 < S3.length := (List.getElem?_eq_some_iff.mp k2).1
      have hap := append_ok (z := kTup p) f1 (by rw [List.length_map, size_is]; omega)
      have kl : (kids p 0 xs).length = xs.length := by
        have : ∀ (xs : List U) (i : Nat), (kids p i xs).length = xs.length := by
          intro xs
          induction xs with
          | nil => intro i; rfl
          | cons x xs ih => intro i; simp only [kids, List.length_cons, ih]
        exact this xs 0
      have hex : cExt2 (.ref j2) ((kids p 0 xs).map pk) S3 = .ok .non (S3.set j2 (.lst (W.map pk ++ (kids p 0 xs).map pk))) := ext_run k2 (by rw [List.length_map, List.length_map, kl, size_is]; omega)
      have step : whGo tKO bKO (m + 1) [u, some (.ref j1), some (.ref j2), v3, v4, none, none] S = whGo tKO bKO m [u, some (.ref j1), some (.ref j2), some (kTup p), some (.tup [.int i, .tup xs]), none, none] (S3.set j2 (.lst (W.map pk ++ (kids p 0 xs).map pk))) := by
        simp only [OD.ev_bind, OD.ev_bindx, OD.ev_st, OD.ev_stx, OD.ev_nox, OD.ev_seq, OD.ev_seqr, OD.ev_seqx, OD.ev_lift, OD.ev_var, OD.ev_var1, OD.ev_k, OD.ev_op, OD.ev_op1, OD.ev_op2, OD.ev_un, OD.ev_un1, OD.ev_nil, OD.ev_cons, OD.ev_cons1, OD.ev_cons2, OD.ev_tup, OD.ev_tup1, OD.ev_lst, OD.ev_lst1, OD.ev_b, OD.ev_bl, OD.ev_b1, OD.ev_new, OD.ev_new1, OD.ev_m, OD.ev_m1, OD.ev_m2, OD.ev_and, OD.ev_andt, OD.ev_andf, OD.ev_or, OD.ev_ort, OD.ev_orf, OD.ev_not, OD.ev_not1, OD.ev_if, OD.ev_ift, OD.ev_iff, OD.ev_asb, OD.ev_asb1, OD.ev_tand, OD.ev_tandt, OD.ev_tandf, OD.ev_tor, OD.ev_tort, OD.ev_torf, OD.ev_tnot, OD.ev_tnot1, OD.ev_tru, OD.ev_tru1, OD.ev_o, OD.ev_is, OD.ev_is1, OD.ev_is2, OD.ev_ch, OD.ev_ch1, OD.ev_ch2, OD.ev_ch3t, OD.ev_ch3f, OD.ev_ch4, OD.ev_sl, OD.ev_sl1, OD.ev_sl2, OD.ev_sl3, OD.ev_on, OD.ev_os, OD.ev_os1, OD.ev_call, OD.ev_call1, OD.ev_asg, OD.ev_asg1, OD.ev_asgt, OD.ev_x, OD.ev_x1, OD.ev_r, OD.ev_r1, OD.ev_rn, OD.ev_skip, OD.ev_mseq, OD.ev_cont, OD.ev_break, OD.ev_ifs, OD.ev_ifst, OD.ev_ifsf, OD.ev_si, OD.ev_si1, OD.ev_si2, OD.ev_si3, OD.ev_si4, OD.ev_aug, OD.ev_aug0, OD.ev_aug1, OD.ev_aug2, OD.ev_fn, OD.ev_fnn, OD.ev_fnr, OD.ev_fnx, OD.ix_tup, OD.ix_lst, OD.ix_str, OD.at0, OD.at1, OD.at2, OD.at3, OD.len_tup, OD.len_scr, OD.len_lst, OD.int_int, OD.add_int, OD.add_tup, OD.sub_int, OD.eq_int, OD.eq_bl, OD.eq_str, OD.lt_int, OD.le_int, OD.gt_int, OD.ge_int, OD.mod_int, OD.div_int, OD.mul_int, OD.ev_wh, OD.ev_whf, OD.ev_wht, OD.ev_wen, OD.ev_wer, OD.ev_mst, OD.ev_mst1, OD.ev_msl, OD.ev_msl1, OD.ev_msl2, OD.ev_mscr, OD.ev_ent, OD.ev_ent1, OD.ev_zip, OD.ev_zip1, OD.ev_zip2, OD.ev_rg, OD.ev_lc, OD.ev_for, OD.ev_ext, OD.ev_ext1, List.getElem?_cons_zero, List.getElem?_cons_succ, List.set_cons_zero, List.set_cons_succ, List.replicate_succ, List.replicate_zero, List.map_cons, List.map_nil, List.length_cons, List.length_nil, List.cons_append, List.nil_append, List.append_nil, Nat.zero_add, Nat.reduceAdd, Nat.reduceSub, Nat.sub_self, len_lst e2', z_lens, isTy_lst e2', pop_last e2', ev_asgt (e := [u, some (.ref j1), some (.ref j2), v3, v4, none, none]) (is := [3, 4]) (us := [kTup p, .tup [.int i, .tup xs]]) (e2 := [u, some (.ref j1), some (.ref j2), some (kTup p), some (.tup [.int i, .tup xs]), none, none]) rfl, isTy_lst f1, hap, ev_ext1 (isTy_lst g2), OD.ix_tup at1, q3, hex]
      have e1n : (S3.set j2 (.lst (W.map pk ++ (kids p 0 xs).map pk)))[j1]? = some (.lst ((fs ++ [p]).map kTup)) := by rw [List.getElem?_set_ne (Ne.symm hne), k1, List.map_append]; rfl
      have e2n : (S3.set j2 (.lst (W.map pk ++ (kids p 0 xs).map pk)))[j2]? = some (.lst ((W ++ kids p 0 xs).map pk)) := by rw [List.getElem?_set_self l3, List.map_append]
      have hN3 : (allP (W ++ kids p 0 xs)).length ≤ N - 1 := by
        rw [allP_app, allP_kids, List.length_append, List.length_map]
        omega
      obtain ⟨w3, w4, R, S', r1, r2, r3, r4, r5, r6⟩ := ko_loop (u := u) hne (N - 1) (W ++ kids p 0 xs) (fs ++ [p]) (some (kTup p)) (some (.tup [.int i, .tup xs])) _ m (B + 1) e1n e2n (fun w hw => by
        rcases List.mem_append.mp hw with q | q
        · obtain ⟨a, b⟩ := hk w (by simp [q])
          exact ⟨a, by omega⟩
        · obtain ⟨a, b⟩ := kids_mem q
          exact ⟨hxs.2 _ a, by omega⟩) hN3 (by omega) (by rw [List.length_append]; simp; omega) (by omega)
      refine ⟨w3, w4, p :: R, S', by rw [step]; exact r1, by rw [r2]; simp, ?_, fun W' p' x' q => ?_, ?_, fun i h1 h2 h3 => ?_⟩
      · rw [ea]
        have h5 : (p :: R).Perm (p :: (allP W ++ (ptsL P8 0 xs).map fun q => p ++ q)) := by
          refine List.Perm.cons p (r3.trans ?_)
          rw [allP_app, allP_kids]
        exact h5.trans List.perm_middle.symm
      · have := List.append_inj' q rfl
        obtain ⟨_, h6⟩ := this
        cases h6
        exact ⟨R, rfl⟩
      · have h7 := a3.len
        simp only [List.length_set] at h7 r5
        omega
      · have h7 := a3.len
        simp only [List.length_set] at h7
        rw [r6 i h1 h2 (by rw [List.length_set]; omega), List.getElem?_set_ne (Ne.symm h2), a3.same i (by simp only [List.length_set]; exact h3), List.getElem?_set_ne (Ne.symm h1), List.getElem?_set_ne (Ne.symm h2)]
theorem knots_of_ok {u : U} (k : Kd 8 u) (S : Sto) : ∃ S' q, d_knots_of [u] S = .ok (.ref q) S' ∧ App S S' ∧ S'[q]? = some (.lst ((sortK (P8 u)).map kTup)) ∧ S.length ≤ q := by
  have e1 : ((S ++ [Cell.lst []]) ++ [Cell.lst [pk ([], u)]])[S.length]? = some (.lst (([] : List (List Int)).map kTup)) := get_app last_get
  have e2 : ((S ++ [Cell.lst []]) ++ [Cell.lst [pk ([], u)]])[(S ++ [Cell.lst []]).length]? = some (.lst (([([], u)] : List (List Int × U)).map pk)) := last_get
  have hl : (allP [([], u)]).length ≤ 65536 := by
    show ((P8 u).map (fun q => [] ++ q) ++ []).length ≤ _
    rw [List.append_nil, List.length_map]
    exact pts_small k (by decide)
  obtain ⟨w3, w4, R, S1, r1, r2, r3, r4, r5, r6⟩ := ko_loop (u := some u) (j1 := S.length) (j2 := (S ++ [Cell.lst []]).length) (by simp) 65536 [([], u)] [] none none _ most 0 e1 e2 (fun w hw => by
    rw [List.mem_singleton.mp hw]
    exact ⟨k, Nat.le_refl _⟩) hl (by decide) (by decide) (by decide)
  obtain ⟨R', rfl⟩ := r4 [] [] u rfl
  have e3 : S1[S.length]? = some (.lst (([] :: R').map kTup)) := r2
  have e4 := sort_ok e3
  have e5 : sortK ([] :: R') = sortK (P8 u) := sortK_congr (r3.trans (by
    show ((P8 u).map (fun q => [] ++ q) ++ []).Perm _
    rw [List.append_nil]
    simp))
  have z0 : ([] : List U).length ≤ sizeLine := by rw [size_is]; simp
  simp only [List.length_append, List.length_cons, List.length_nil] at r5 r6
  refine ⟨S1 ++ [Cell.lst ((sortK ([] :: R')).map kTup)], S1.length, ?_, ⟨?_, fun i h => ?_⟩, by rw [← e5]; exact last_get, by omega⟩
  · have r1' : whGo tKO bKO most [some u, some (U.ref S.length), some (U.ref (S ++ [Cell.lst []]).length), none, none, none, none] ((S ++ [Cell.lst []]) ++ [Cell.lst [.tup [.tup [], u]]]) = _ := r1
    unfold d_knots_of b_knots_of mWh
    simp only [OD.ev_bind, OD.ev_bindx, OD.ev_st, OD.ev_stx, OD.ev_nox, OD.ev_seq, OD.ev_seqr, OD.ev_seqx, OD.ev_lift, OD.ev_var, OD.ev_var1, OD.ev_k, OD.ev_op, OD.ev_op1, OD.ev_op2, OD.ev_un, OD.ev_un1, OD.ev_nil, OD.ev_cons, OD.ev_cons1, OD.ev_cons2, OD.ev_tup, OD.ev_tup1, OD.ev_lst, OD.ev_lst1, OD.ev_b, OD.ev_bl, OD.ev_b1, OD.ev_new, OD.ev_new1, OD.ev_m, OD.ev_m1, OD.ev_m2, OD.ev_and, OD.ev_andt, OD.ev_andf, OD.ev_or, OD.ev_ort, OD.ev_orf, OD.ev_not, OD.ev_not1, OD.ev_if, OD.ev_ift, OD.ev_iff, OD.ev_asb, OD.ev_asb1, OD.ev_tand, OD.ev_tandt, OD.ev_tandf, OD.ev_tor, OD.ev_tort, OD.ev_torf, OD.ev_tnot, OD.ev_tnot1, OD.ev_tru, OD.ev_tru1, OD.ev_o, OD.ev_is, OD.ev_is1, OD.ev_is2, OD.ev_ch, OD.ev_ch1, OD.ev_ch2, OD.ev_ch3t, OD.ev_ch3f, OD.ev_ch4, OD.ev_sl, OD.ev_sl1, OD.ev_sl2, OD.ev_sl3, OD.ev_on, OD.ev_os, OD.ev_os1, OD.ev_call, OD.ev_call1, OD.ev_asg, OD.ev_asg1, OD.ev_asgt, OD.ev_x, OD.ev_x1, OD.ev_r, OD.ev_r1, OD.ev_rn, OD.ev_skip, OD.ev_mseq, OD.ev_cont, OD.ev_break, OD.ev_ifs, OD.ev_ifst, OD.ev_ifsf, OD.ev_si, OD.ev_si1, OD.ev_si2, OD.ev_si3, OD.ev_si4, OD.ev_aug, OD.ev_aug0, OD.ev_aug1, OD.ev_aug2, OD.ev_fn, OD.ev_fnn, OD.ev_fnr, OD.ev_fnx, OD.ix_tup, OD.ix_lst, OD.ix_str, OD.at0, OD.at1, OD.at2, OD.at3, OD.len_tup, OD.len_scr, OD.len_lst, OD.int_int, OD.add_int, OD.add_tup, OD.sub_int, OD.eq_int, OD.eq_bl, OD.eq_str, OD.lt_int, OD.le_int, OD.gt_int, OD.ge_int, OD.mod_int, OD.div_int, OD.mul_int, OD.ev_wh, OD.ev_whf, OD.ev_wht, OD.ev_wen, OD.ev_wer, OD.ev_mst, OD.ev_mst1, OD.ev_msl, OD.ev_msl1, OD.ev_msl2, OD.ev_mscr, OD.ev_ent, OD.ev_ent1, OD.ev_zip, OD.ev_zip1, OD.ev_zip2, OD.ev_rg, OD.ev_lc, OD.ev_for, OD.ev_ext, OD.ev_ext1, List.getElem?_cons_zero, List.getElem?_cons_succ, List.set_cons_zero, List.set_cons_succ, List.replicate_succ, List.replicate_zero, List.map_cons, List.map_nil, List.length_cons, List.length_nil, List.cons_append, List.nil_append, List.append_nil, Nat.zero_add, Nat.reduceAdd, Nat.reduceSub, Nat.sub_self, ev_tup1 z0, ev_lst1 z0, ev_lst1 one_line, ev_tup1 two_line, r1', e4]
  · rw [List.length_append]
    omega
  · rw [List.getElem?_append_left (by omega), r6 i (by omega) (by omega) (by omega), List.getElem?_append_left (by rw [List.length_append]; omega), List.getElem?_append_left h]
theorem knots_ok {L : Nat} {S : Sto} {u : U} (g : Gd L S u) (h : ik u = true) : ∃ S' q, d_knots [u] S = .ok (.ref q) S' ∧ App S S' ∧ S'[q]? = some (.lst ((sortK (P8 u)).map kTup)) ∧ S.length ≤ q := by
  obtain ⟨S1, q1, a1⟩ := check_ok g h
  obtain ⟨S2, q, q2, a2, e, hq⟩ := knots_of_ok (kd_ik h) S1
  refine ⟨S2, q, ?_, a1.trans a2, e, Nat.le_trans a1.len hq⟩
  unfold d_knots b_knots
  simp only [OD.ev_bind, OD.ev_bindx, OD.ev_st, OD.ev_stx, OD.ev_nox, OD.ev_seq, OD.ev_seqr, OD.ev_seqx, OD.ev_lift, OD.ev_var, OD.ev_var1, OD.ev_k, OD.ev_op, OD.ev_op1, OD.ev_op2, OD.ev_un, OD.ev_un1, OD.ev_nil, OD.ev_cons, OD.ev_cons1, OD.ev_cons2, OD.ev_tup, OD.ev_tup1, OD.ev_lst, OD.ev_lst1, OD.ev_b, OD.ev_bl, OD.ev_b1, OD.ev_new, OD.ev_new1, OD.ev_m, OD.ev_m1, OD.ev_m2, OD.ev_and, OD.ev_andt, OD.ev_andf, OD.ev_or, OD.ev_ort, OD.ev_orf, OD.ev_not, OD.ev_not1, OD.ev_if, OD.ev_ift, OD.ev_iff, OD.ev_asb, OD.ev_asb1, OD.ev_tand, OD.ev_tandt, OD.ev_tandf, OD.ev_tor, OD.ev_tort, OD.ev_torf, OD.ev_tnot, OD.ev_tnot1, OD.ev_tru, OD.ev_tru1, OD.ev_o, OD.ev_is, OD.ev_is1, OD.ev_is2, OD.ev_ch, OD.ev_ch1, OD.ev_ch2, OD.ev_ch3t, OD.ev_ch3f, OD.ev_ch4, OD.ev_sl, OD.ev_sl1, OD.ev_sl2, OD.ev_sl3, OD.ev_on, OD.ev_os, OD.ev_os1, OD.ev_call, OD.ev_call1, OD.ev_asg, OD.ev_asg1, OD.ev_asgt, OD.ev_x, OD.ev_x1, OD.ev_r, OD.ev_r1, OD.ev_rn, OD.ev_skip, OD.ev_mseq, OD.ev_cont, OD.ev_break, OD.ev_ifs, OD.ev_ifst, OD.ev_ifsf, OD.ev_si, OD.ev_si1, OD.ev_si2, OD.ev_si3, OD.ev_si4, OD.ev_aug, OD.ev_aug0, OD.ev_aug1, OD.ev_aug2, OD.ev_fn, OD.ev_fnn, OD.ev_fnr, OD.ev_fnx, OD.ix_tup, OD.ix_lst, OD.ix_str, OD.at0, OD.at1, OD.at2, OD.at3, OD.len_tup, OD.len_scr, OD.len_lst, OD.int_int, OD.add_int, OD.add_tup, OD.sub_int, OD.eq_int, OD.eq_bl, OD.eq_str, OD.lt_int, OD.le_int, OD.gt_int, OD.ge_int, OD.mod_int, OD.div_int, OD.mul_int, OD.ev_wh, OD.ev_whf, OD.ev_wht, OD.ev_wen, OD.ev_wer, OD.ev_mst, OD.ev_mst1, OD.ev_msl, OD.ev_msl1, OD.ev_msl2, OD.ev_mscr, OD.ev_ent, OD.ev_ent1, OD.ev_zip, OD.ev_zip1, OD.ev_zip2, OD.ev_rg, OD.ev_lc, OD.ev_for, OD.ev_ext, OD.ev_ext1, List.getElem?_cons_zero, List.getElem?_cons_succ, List.set_cons_zero, List.set_cons_succ, List.replicate_succ, List.replicate_zero, List.map_cons, List.map_nil, List.length_cons, List.length_nil, List.cons_append, List.nil_append, List.append_nil, Nat.zero_add, Nat.reduceAdd, Nat.reduceSub, Nat.sub_self, ev_call1 (us := [u]) (n := 1) rfl, q1, q2]
/-! ### told -/
theorem told_ev {e : OD.Env} {S : Sto} {b : SM} {ctc : Nat → Option Bool} {sd : Nat → Option (Nat × U) → SM} {c : Nat} {f : Option (Nat × U)} {e' : OD.Env} {S' : Sto} (h : b e S = .ex c f e' S') (hc : ctc c = some true) : mTry ctc b sd e S = sd c f e' S' := by
  unfold mTry
  rw [h]
  show (match ctc c with
    | some true => sd c f e' S'
    | some false => .ex c f e' S'
    | none => .bad) = _
  rw [hc]
theorem callV_ev {tab : Nat → Option (Nat × FM)} {i f n : Nat} {D : FM} {ms : EM (List U)} {e : OD.Env} {S : Sto} (h : e[i]? = some (some (.fn f))) (ht : tab f = some (n, D)) : mCallV tab i ms e S = (ms e S).bind (cCall n D) := by
  unfold mCallV
  simp only [h, ht]
  rfl
theorem told_ok {S : Sto} {f : Nat} {D : FM} {u : U} (ht : tab__law_told_ask f = some (1, D)) (hD : ∃ S', D [u] S = .ex 42 none S' ∧ App S S') : ∃ S', d__law_told [.fn f, u] S = .ok (.tup [.str [107, 105, 110, 100], .non]) S' ∧ App S S' := by
  obtain ⟨S1, q, a⟩ := hD
  refine ⟨S1, ?_, a⟩
  have e1 : ts_told [some (.fn f), some u, some (.tup [.str [111, 116, 104, 101, 114], .non]), none, none] S = .ex 42 none [some (.fn f), some u, some (.tup [.str [111, 116, 104, 101, 114], .non]), none, none] S1 := by
    unfold ts_told
    simp only [OD.ev_bind, OD.ev_bindx, OD.ev_st, OD.ev_stx, OD.ev_nox, OD.ev_seq, OD.ev_seqr, OD.ev_seqx, OD.ev_lift, OD.ev_var, OD.ev_var1, OD.ev_k, OD.ev_op, OD.ev_op1, OD.ev_op2, OD.ev_un, OD.ev_un1, OD.ev_nil, OD.ev_cons, OD.ev_cons1, OD.ev_cons2, OD.ev_tup, OD.ev_tup1, OD.ev_lst, OD.ev_lst1, OD.ev_b, OD.ev_bl, OD.ev_b1, OD.ev_new, OD.ev_new1, OD.ev_m, OD.ev_m1, OD.ev_m2, OD.ev_and, OD.ev_andt, OD.ev_andf, OD.ev_or, OD.ev_ort, OD.ev_orf, OD.ev_not, OD.ev_not1, OD.ev_if, OD.ev_ift, OD.ev_iff, OD.ev_asb, OD.ev_asb1, OD.ev_tand, OD.ev_tandt, OD.ev_tandf, OD.ev_tor, OD.ev_tort, OD.ev_torf, OD.ev_tnot, OD.ev_tnot1, OD.ev_tru, OD.ev_tru1, OD.ev_o, OD.ev_is, OD.ev_is1, OD.ev_is2, OD.ev_ch, OD.ev_ch1, OD.ev_ch2, OD.ev_ch3t, OD.ev_ch3f, OD.ev_ch4, OD.ev_sl, OD.ev_sl1, OD.ev_sl2, OD.ev_sl3, OD.ev_on, OD.ev_os, OD.ev_os1, OD.ev_call, OD.ev_call1, OD.ev_asg, OD.ev_asg1, OD.ev_asgt, OD.ev_x, OD.ev_x1, OD.ev_r, OD.ev_r1, OD.ev_rn, OD.ev_skip, OD.ev_mseq, OD.ev_cont, OD.ev_break, OD.ev_ifs, OD.ev_ifst, OD.ev_ifsf, OD.ev_si, OD.ev_si1, OD.ev_si2, OD.ev_si3, OD.ev_si4, OD.ev_aug, OD.ev_aug0, OD.ev_aug1, OD.ev_aug2, OD.ev_fn, OD.ev_fnn, OD.ev_fnr, OD.ev_fnx, OD.ix_tup, OD.ix_lst, OD.ix_str, OD.at0, OD.at1, OD.at2, OD.at3, OD.len_tup, OD.len_scr, OD.len_lst, OD.int_int, OD.add_int, OD.add_tup, OD.sub_int, OD.eq_int, OD.eq_bl, OD.eq_str, OD.lt_int, OD.le_int, OD.gt_int, OD.ge_int, OD.mod_int, OD.div_int, OD.mul_int, OD.ev_wh, OD.ev_whf, OD.ev_wht, OD.ev_wen, OD.ev_wer, OD.ev_mst, OD.ev_mst1, OD.ev_msl, OD.ev_msl1, OD.ev_msl2, OD.ev_mscr, OD.ev_ent, OD.ev_ent1, OD.ev_zip, OD.ev_zip1, OD.ev_zip2, OD.ev_rg, OD.ev_lc, OD.ev_for, OD.ev_ext, OD.ev_ext1, List.getElem?_cons_zero, List.getElem?_cons_succ, List.set_cons_zero, List.set_cons_succ, List.replicate_succ, List.replicate_zero, List.map_cons, List.map_nil, List.length_cons, List.length_nil, List.cons_append, List.nil_append, List.append_nil, Nat.zero_add, Nat.reduceAdd, Nat.reduceSub, Nat.sub_self, callV_ev (i := 0) (e := [some (.fn f), some u, some (.tup [.str [111, 116, 104, 101, 114], .non]), none, none]) rfl ht, ev_call1 (us := [u]) (n := 1) rfl, q]
  have e2 := told_ev (sd := sd_told) e1 (ctc := ctc_told) rfl
  have e3 : sd_told 42 none [some (.fn f), some u, some (.tup [.str [111, 116, 104, 101, 114], .non]), none, none] S1 = .nx [some (.fn f), some u, some (.tup [.str [107, 105, 110, 100], .non]), none, some (.bl true)] S1 := rfl
  unfold d__law_told b__law_told
  simp only [OD.ev_bind, OD.ev_bindx, OD.ev_st, OD.ev_stx, OD.ev_nox, OD.ev_seq, OD.ev_seqr, OD.ev_seqx, OD.ev_lift, OD.ev_var, OD.ev_var1, OD.ev_k, OD.ev_op, OD.ev_op1, OD.ev_op2, OD.ev_un, OD.ev_un1, OD.ev_nil, OD.ev_cons, OD.ev_cons1, OD.ev_cons2, OD.ev_tup, OD.ev_tup1, OD.ev_lst, OD.ev_lst1, OD.ev_b, OD.ev_bl, OD.ev_b1, OD.ev_new, OD.ev_new1, OD.ev_m, OD.ev_m1, OD.ev_m2, OD.ev_and, OD.ev_andt, OD.ev_andf, OD.ev_or, OD.ev_ort, OD.ev_orf, OD.ev_not, OD.ev_not1, OD.ev_if, OD.ev_ift, OD.ev_iff, OD.ev_asb, OD.ev_asb1, OD.ev_tand, OD.ev_tandt, OD.ev_tandf, OD.ev_tor, OD.ev_tort, OD.ev_torf, OD.ev_tnot, OD.ev_tnot1, OD.ev_tru, OD.ev_tru1, OD.ev_o, OD.ev_is, OD.ev_is1, OD.ev_is2, OD.ev_ch, OD.ev_ch1, OD.ev_ch2, OD.ev_ch3t, OD.ev_ch3f, OD.ev_ch4, OD.ev_sl, OD.ev_sl1, OD.ev_sl2, OD.ev_sl3, OD.ev_on, OD.ev_os, OD.ev_os1, OD.ev_call, OD.ev_call1, OD.ev_asg, OD.ev_asg1, OD.ev_asgt, OD.ev_x, OD.ev_x1, OD.ev_r, OD.ev_r1, OD.ev_rn, OD.ev_skip, OD.ev_mseq, OD.ev_cont, OD.ev_break, OD.ev_ifs, OD.ev_ifst, OD.ev_ifsf, OD.ev_si, OD.ev_si1, OD.ev_si2, OD.ev_si3, OD.ev_si4, OD.ev_aug, OD.ev_aug0, OD.ev_aug1, OD.ev_aug2, OD.ev_fn, OD.ev_fnn, OD.ev_fnr, OD.ev_fnx, OD.ix_tup, OD.ix_lst, OD.ix_str, OD.at0, OD.at1, OD.at2, OD.at3, OD.len_tup, OD.len_scr, OD.len_lst, OD.int_int, OD.add_int, OD.add_tup, OD.sub_int, OD.eq_int, OD.eq_bl, OD.eq_str, OD.lt_int, OD.le_int, OD.gt_int, OD.ge_int, OD.mod_int, OD.div_int, OD.mul_int, OD.ev_wh, OD.ev_whf, OD.ev_wht, OD.ev_wen, OD.ev_wer, OD.ev_mst, OD.ev_mst1, OD.ev_msl, OD.ev_msl1, OD.ev_msl2, OD.ev_mscr, OD.ev_ent, OD.ev_ent1, OD.ev_zip, OD.ev_zip1, OD.ev_zip2, OD.ev_rg, OD.ev_lc, OD.ev_for, OD.ev_ext, OD.ev_ext1, List.getElem?_cons_zero, List.getElem?_cons_succ, List.set_cons_zero, List.set_cons_succ, List.replicate_succ, List.replicate_zero, List.map_cons, List.map_nil, List.length_cons, List.length_nil, List.cons_append, List.nil_append, List.append_nil, Nat.zero_add, Nat.reduceAdd, Nat.reduceSub, Nat.sub_self, ev_tup1 two_line, e2, e3]
end K01
end

section
set_option Elab.async false
set_option linter.all false
set_option autoImplicit false
set_option maxRecDepth 100000
set_option maxHeartbeats 4000000
/-! the plain law of k01: things grown and changed -/
namespace K01
open PySem L2 OD
/-- what stands keeps its kind -/
def Keep (S S' : Sto) : Prop := ∀ (j : Nat) (c : Cell), S[j]? = some c → (∃ xs ys, c = .lst xs ∧ S'[j]? = some (.lst ys)) ∨ S'[j]? = some c
theorem Keep.refl {S : Sto} : Keep S S := fun j c h => .inr h
theorem Keep.trans {S S1 S2 : Sto} (a : Keep S S1) (b : Keep S1 S2) : Keep S S2 := fun j c h => by
  rcases a j c h with ⟨xs, ys, rfl, h2⟩ | h2
  · rcases b j _ h2 with ⟨xs', ys', e, h3⟩ | h3
    · exact .inl ⟨xs, ys', rfl, h3⟩
    · exact .inl ⟨xs, ys, rfl, h3⟩
  · exact b j c h2
theorem appKeep {S S' : Sto} (a : App S S') : Keep S S' := fun j c h => .inr (a.get h)
theorem Keep.set {S : Sto} {j : Nat} {xs ys : List U} (h : S[j]? = some (.lst xs)) : Keep S (S.set j (.lst ys)) := fun i c hi => by
  have hj : j < S.length := (List.getElem?_eq_some_iff.mp h).1
  by_cases q : j = i
  · subst q
    rw [h] at hi
    cases hi
    exact .inl ⟨xs, ys, rfl, List.getElem?_set_self hj⟩
  · exact .inr (by rw [List.getElem?_set_ne q]; exact hi)
theorem Gd.keep {L : Nat} {S S' : Sto} (a : Keep S S') {u : U} (g : Gd L S u) : Gd L S' u := by
  induction g with
  | non => exact .non
  | bl b => exact .bl b
  | int i => exact .int i
  | str s => exact .str s
  | tup hl _ ih => exact .tup hl ih
  | lst h =>
    rcases a _ _ h with ⟨_, ys, _, h2⟩ | h2
    · exact .lst h2
    · exact .lst h2
  | dic h =>
    rcases a _ _ h with ⟨_, ys, e, h2⟩ | h2
    · cases e
    · exact .dic h2
  | ins h =>
    rcases a _ _ h with ⟨_, ys, e, h2⟩ | h2
    · cases e
    · exact .ins h2
theorem Gd.more {L M : Nat} {S : Sto} (hLM : L ≤ M) {u : U} (g : Gd L S u) : Gd M S u := by
  induction g with
  | non => exact .non
  | bl b => exact .bl b
  | int i => exact .int i
  | str s => exact .str s
  | tup hl _ ih => exact .tup (Nat.le_trans hl hLM) ih
  | lst h => exact .lst h
  | dic h => exact .dic h
  | ins h => exact .ins h
/-- a step of what draws from the bag -/
structure Wk (b g : Nat) (S S' : Sto) : Prop where
  bag : Bag b g S'
  st : Stp b g S S'
  keep : Keep S S'
theorem Wk.trans {b g : Nat} {S S1 S2 : Sto} (a : Wk b g S S1) (c : Wk b g S1 S2) : Wk b g S S2 := ⟨c.bag, a.st.trans c.st, a.keep.trans c.keep⟩
theorem wk_of {b g : Nat} {S S' : Sto} (B : Bag b g S) (B' : Bag b g S') (s : Stp b g S S') : Wk b g S S' := ⟨B', s, fun j c h => by
  by_cases q : j = b
  · subst q
    obtain ⟨_, _, _, h1, _⟩ := B.at_
    obtain ⟨_, _, _, h2, _⟩ := B'.at_
    rw [h1] at h
    cases h
    exact .inl ⟨_, _, rfl, h2⟩
  · by_cases q2 : j = g
    · subst q2
      obtain ⟨_, h1⟩ := B.gr
      obtain ⟨_, h2⟩ := B'.gr
      rw [h1] at h
      cases h
      exact .inl ⟨_, _, rfl, h2⟩
    · exact .inr (by rw [s.same j q q2 (List.getElem?_eq_some_iff.mp h).1]; exact h)⟩
theorem Bag.lb {b g : Nat} {S : Sto} (B : Bag b g S) : b < S.length := let ⟨_, _, _, h, _⟩ := B.at_; (List.getElem?_eq_some_iff.mp h).1
theorem Bag.lg {b g : Nat} {S : Sto} (B : Bag b g S) : g < S.length := let ⟨_, h⟩ := B.gr; (List.getElem?_eq_some_iff.mp h).1
theorem Bag.app {b g : Nat} {S S' : Sto} (B : Bag b g S) (a : App S S') : Bag b g S' := ⟨B.ne, let ⟨s, n, al, h, r⟩ := B.at_; ⟨s, n, al, a.get h, r⟩, let ⟨gs, h⟩ := B.gr; ⟨gs, a.get h⟩⟩
theorem appStp {b g : Nat} {S S' : Sto} (a : App S S') : Stp b g S S' := ⟨a.len, fun i _ _ h => a.same i h⟩
theorem appWk {b g : Nat} {S S' : Sto} (a : App S S') (B : Bag b g S) : Wk b g S S' := ⟨B.app a, appStp a, appKeep a⟩
theorem pick_wk {b g : Nat} {S : Sto} {many : Int} (B : Bag b g S) (h1 : 0 < many) (h2 : many < 1073741824) : ∃ d S', d__law_pick [.ref b, .int many] S = .ok (.int d) S' ∧ 0 ≤ d ∧ d < many ∧ Wk b g S S' := by
  obtain ⟨d, S', q, a1, a2, B', s⟩ := pick_ok B h1 h2
  exact ⟨d, S', q, a1, a2, wk_of B B' s⟩
/-- .. where the cell at j is a list of one's own -/
structure Wj (b g j : Nat) (S S' : Sto) : Prop where
  bag : Bag b g S'
  len : S.length ≤ S'.length
  same : ∀ i, i ≠ b → i ≠ g → i ≠ j → i < S.length → S'[i]? = S[i]?
  keep : Keep S S'
theorem Wk.wj {b g j : Nat} {S S' : Sto} (a : Wk b g S S') : Wj b g j S S' := ⟨a.bag, a.st.len, fun i h1 h2 _ h3 => a.st.same i h1 h2 h3, a.keep⟩
theorem Wj.trans {b g j : Nat} {S S1 S2 : Sto} (a : Wj b g j S S1) (c : Wj b g j S1 S2) : Wj b g j S S2 := ⟨c.bag, Nat.le_trans a.len c.len, fun i h1 h2 h3 h4 => (c.same i h1 h2 h3 (Nat.lt_of_lt_of_le h4 a.len)).trans (a.same i h1 h2 h3 h4), a.keep.trans c.keep⟩
theorem Wj.set {b g j : Nat} {S : Sto} {xs ys : List U} (B : Bag b g S) (h : S[j]? = some (.lst xs)) (hb : j ≠ b) (hg : j ≠ g) : Wj b g j S (S.set j (.lst ys)) :=
  ⟨⟨B.ne, let ⟨s, n, al, h, r⟩ := B.at_; ⟨s, n, al, by rw [List.getElem?_set_ne hb]; exact h, r⟩, let ⟨gs, h⟩ := B.gr; ⟨gs, by rw [List.getElem?_set_ne hg]; exact h⟩⟩, by simp, fun i _ _ h3 _ => List.getElem?_set_ne (Ne.symm h3), Keep.set h⟩
theorem Wj.wk {b g : Nat} {S S1 S2 : Sto} (a : App S S1) (c : Wj b g S.length S1 S2) : Wk b g S S2 :=
  ⟨c.bag, ⟨Nat.le_trans a.len c.len, fun i h1 h2 h3 => (c.same i h1 h2 (Nat.ne_of_lt h3) (Nat.lt_of_lt_of_le h3 a.len)).trans (a.same i h3)⟩, (appKeep a).trans c.keep⟩
/-! ### grown -/
abbrev tGR : EM Bool := (asB (mOp fGt (mVar 3) (mK (.int 0))))
abbrev bGR (D : FM) : SM := (mSeq (mAsg (.nm 4) (mOp fAdd (mK (.int 1)) (mCall 2 d__law_pick (mCons (mVar 0) (mCons (mVar 3) mNil)))))
  (mSeq (mExpr (mM 0 fAppend (mVar 2) (mCons (mCall 2 D (mCons (mVar 0) (mCons (mVar 4) mNil))) mNil)))
  (mAsg (.nm 3) (mOp fSub (mVar 3) (mVar 4)))))
theorem gr_loop {D : FM} {b g j : Nat} {c : Int} (hjb : j ≠ b) (hjg : j ≠ g) (hD : ∀ (k : Int) (S : Sto), 1 ≤ k → k ≤ c → Bag b g S → ∃ u S', D [.ref b, .int k] S = .ok u S' ∧ Gd 10 S' u ∧ Wk b g S S') (m1 : Option U) :
    ∀ (n : Nat) (left : Int) (xs : List U) (v4 : Option U) (S : Sto) (m : Nat), Bag b g S → S[j]? = some (.lst xs) → (∀ x, x ∈ xs → Gd 10 S x) → left ≤ c → left ≤ n → xs.length + n ≤ 10 → n < m →
      ∃ l w4 ys S', whGo tGR (bGR D) m [some (.ref b), m1, some (.ref j), some (.int left), v4] S = .nx [some (.ref b), m1, some (.ref j), some (.int l), w4] S' ∧ S'[j]? = some (.lst ys) ∧ (∀ x, x ∈ ys → Gd 10 S' x) ∧ ys.length ≤ 10 ∧ Wj b g j S S'
  | n, left, xs, v4, S, 0, B, h, hx, hc, hn, hl, hm => absurd hm (Nat.not_lt_zero n)
  | n, left, xs, v4, S, m + 1, B, h, hx, hc, hn, hl, hm => by
    by_cases h0 : 0 < left
    · obtain ⟨d, S1, q1, d1, d2, w1⟩ := pick_wk B h0 (by omega)
      obtain ⟨u, S2, q2, g2, w2⟩ := hD (1 + d) S1 (by omega) (by omega) w1.bag
      have w12 := w1.trans w2
      have hj2 : S2[j]? = some (.lst xs) := by rw [w12.st.same j hjb hjg (List.getElem?_eq_some_iff.mp h).1]; exact h
      have hap := append_ok (z := u) hj2 (by rw [size_is]; omega)
      have l2 : j < S2.length := (List.getElem?_eq_some_iff.mp hj2).1
      have k3 : Keep S2 (S2.set j (.lst (xs ++ [u]))) := Keep.set hj2
      have isL : isTy 0 (.ref j) S1 = true := by
        have : S1[j]? = some (.lst xs) := by rw [w1.st.same j hjb hjg (List.getElem?_eq_some_iff.mp h).1]; exact h
        exact isTy_lst this
      have wj := (w12.wj (j := j)).trans (Wj.set (ys := xs ++ [u]) w12.bag hj2 hjb hjg)
      match n, hn, hl, hm with
      | 0, hn, hl, hm => exact absurd hn (by omega)
      | n + 1, hn, hl, hm =>
        obtain ⟨l, w4, ys, S', r1, r2, r3, r4, r5⟩ := gr_loop (D := D) hjb hjg hD m1 n (left - (1 + d)) (xs ++ [u]) (some (.int (1 + d))) (S2.set j (.lst (xs ++ [u]))) m wj.bag (List.getElem?_set_self l2) (fun x hxm => by
          rcases List.mem_append.mp hxm with q | q
          · exact ((hx x q).keep w12.keep).keep k3
          · rw [List.mem_singleton.mp q]; exact g2.keep k3) (by omega) (by omega) (by rw [List.length_append]; simp; omega) (by omega)
        refine ⟨l, w4, ys, S', ?_, r2, r3, r4, wj.trans r5⟩
        rw [← r1]
        simp only [OD.ev_bind, OD.ev_bindx, OD.ev_st, OD.ev_stx, OD.ev_nox, OD.ev_seq, OD.ev_seqr, OD.ev_seqx, OD.ev_lift, OD.ev_var, OD.ev_var1, OD.ev_k, OD.ev_op, OD.ev_op1, OD.ev_op2, OD.ev_un, OD.ev_un1, OD.ev_nil, OD.ev_cons, OD.ev_cons1, OD.ev_cons2, OD.ev_tup, OD.ev_tup1, OD.ev_lst, OD.ev_lst1, OD.ev_b, OD.ev_bl, OD.ev_b1, OD.ev_new, OD.ev_new1, OD.ev_m, OD.ev_m1, OD.ev_m2, OD.ev_and, OD.ev_andt, OD.ev_andf, OD.ev_or, OD.ev_ort, OD.ev_orf, OD.ev_not, OD.ev_not1, OD.ev_if, OD.ev_ift, OD.ev_iff, OD.ev_asb, OD.ev_asb1, OD.ev_tand, OD.ev_tandt, OD.ev_tandf, OD.ev_tor, OD.ev_tort, OD.ev_torf, OD.ev_tnot, OD.ev_tnot1, OD.ev_tru, OD.ev_tru1, OD.ev_o, OD.ev_is, OD.ev_is1, OD.ev_is2, OD.ev_ch, OD.ev_ch1, OD.ev_ch2, OD.ev_ch3t, OD.ev_ch3f, OD.ev_ch4, OD.ev_sl, OD.ev_sl1, OD.ev_sl2, OD.ev_sl3, OD.ev_on, OD.ev_os, OD.ev_os1, OD.ev_call, OD.ev_call1, OD.ev_asg, OD.ev_asg1, OD.ev_asgt, OD.ev_x, OD.ev_x1, OD.ev_r, OD.ev_r1, OD.ev_rn, OD.ev_skip, OD.ev_mseq, OD.ev_cont, OD.ev_break, OD.ev_ifs, OD.ev_ifst, OD.ev_ifsf, OD.ev_si, OD.ev_si1, OD.ev_si2, OD.ev_si3, OD.ev_si4, OD.ev_aug, OD.ev_aug0, OD.ev_aug1, OD.ev_aug2, OD.ev_fn, OD.ev_fnn, OD.ev_fnr, OD.ev_fnx, OD.ix_tup, OD.ix_lst, OD.ix_str, OD.at0, OD.at1, OD.at2, OD.at3, OD.len_tup, OD.len_scr, OD.len_lst, OD.int_int, OD.add_int, OD.add_tup, OD.sub_int, OD.eq_int, OD.eq_bl, OD.eq_str, OD.lt_int, OD.le_int, OD.gt_int, OD.ge_int, OD.mod_int, OD.div_int, OD.mul_int, OD.ev_wh, OD.ev_whf, OD.ev_wht, OD.ev_wen, OD.ev_wer, OD.ev_mst, OD.ev_mst1, OD.ev_msl, OD.ev_msl1, OD.ev_msl2, OD.ev_mscr, OD.ev_ent, OD.ev_ent1, OD.ev_zip, OD.ev_zip1, OD.ev_zip2, OD.ev_rg, OD.ev_lc, OD.ev_for, OD.ev_ext, OD.ev_ext1, List.getElem?_cons_zero, List.getElem?_cons_succ, List.set_cons_zero, List.set_cons_succ, List.replicate_succ, List.replicate_zero, List.map_cons, List.map_nil, List.length_cons, List.length_nil, List.cons_append, List.nil_append, List.append_nil, Nat.zero_add, Nat.reduceAdd, Nat.reduceSub, Nat.sub_self, decide_eq_true h0, ev_call1 (us := [U.ref b, U.int left]) (n := 2) rfl, q1, ev_m1 isL, ev_call1 (us := [U.ref b, U.int (1 + d)]) (n := 2) rfl, q2, hap]
    · refine ⟨left, v4, xs, S, ?_, h, hx, by omega, ⟨B, Nat.le_refl _, fun _ _ _ _ _ => rfl, .refl⟩⟩
      simp only [OD.ev_bind, OD.ev_bindx, OD.ev_st, OD.ev_stx, OD.ev_nox, OD.ev_seq, OD.ev_seqr, OD.ev_seqx, OD.ev_lift, OD.ev_var, OD.ev_var1, OD.ev_k, OD.ev_op, OD.ev_op1, OD.ev_op2, OD.ev_un, OD.ev_un1, OD.ev_nil, OD.ev_cons, OD.ev_cons1, OD.ev_cons2, OD.ev_tup, OD.ev_tup1, OD.ev_lst, OD.ev_lst1, OD.ev_b, OD.ev_bl, OD.ev_b1, OD.ev_new, OD.ev_new1, OD.ev_m, OD.ev_m1, OD.ev_m2, OD.ev_and, OD.ev_andt, OD.ev_andf, OD.ev_or, OD.ev_ort, OD.ev_orf, OD.ev_not, OD.ev_not1, OD.ev_if, OD.ev_ift, OD.ev_iff, OD.ev_asb, OD.ev_asb1, OD.ev_tand, OD.ev_tandt, OD.ev_tandf, OD.ev_tor, OD.ev_tort, OD.ev_torf, OD.ev_tnot, OD.ev_tnot1, OD.ev_tru, OD.ev_tru1, OD.ev_o, OD.ev_is, OD.ev_is1, OD.ev_is2, OD.ev_ch, OD.ev_ch1, OD.ev_ch2, OD.ev_ch3t, OD.ev_ch3f, OD.ev_ch4, OD.ev_sl, OD.ev_sl1, OD.ev_sl2, OD.ev_sl3, OD.ev_on, OD.ev_os, OD.ev_os1, OD.ev_call, OD.ev_call1, OD.ev_asg, OD.ev_asg1, OD.ev_asgt, OD.ev_x, OD.ev_x1, OD.ev_r, OD.ev_r1, OD.ev_rn, OD.ev_skip, OD.ev_mseq, OD.ev_cont, OD.ev_break, OD.ev_ifs, OD.ev_ifst, OD.ev_ifsf, OD.ev_si, OD.ev_si1, OD.ev_si2, OD.ev_si3, OD.ev_si4, OD.ev_aug, OD.ev_aug0, OD.ev_aug1, OD.ev_aug2, OD.ev_fn, OD.ev_fnn, OD.ev_fnr, OD.ev_fnx, OD.ix_tup, OD.ix_lst, OD.ix_str, OD.at0, OD.at1, OD.at2, OD.at3, OD.len_tup, OD.len_scr, OD.len_lst, OD.int_int, OD.add_int, OD.add_tup, OD.sub_int, OD.eq_int, OD.eq_bl, OD.eq_str, OD.lt_int, OD.le_int, OD.gt_int, OD.ge_int, OD.mod_int, OD.div_int, OD.mul_int, OD.ev_wh, OD.ev_whf, OD.ev_wht, OD.ev_wen, OD.ev_wer, OD.ev_mst, OD.ev_mst1, OD.ev_msl, OD.ev_msl1, OD.ev_msl2, OD.ev_mscr, OD.ev_ent, OD.ev_ent1, OD.ev_zip, OD.ev_zip1, OD.ev_zip2, OD.ev_rg, OD.ev_lc, OD.ev_for, OD.ev_ext, OD.ev_ext1, List.getElem?_cons_zero, List.getElem?_cons_succ, List.set_cons_zero, List.set_cons_succ, List.replicate_succ, List.replicate_zero, List.map_cons, List.map_nil, List.length_cons, List.length_nil, List.cons_append, List.nil_append, List.append_nil, Nat.zero_add, Nat.reduceAdd, Nat.reduceSub, Nat.sub_self, decide_eq_false h0]
theorem grown_ok : ∀ (n : Nat) (many : Int) (b g : Nat) (S : Sto), Bag b g S → 1 ≤ many → many ≤ n → many ≤ 9 → ∃ u S', d__law_grown n [.ref b, .int many] S = .ok u S' ∧ Gd 10 S' u ∧ Wk b g S S'
  | 0, many, b, g, S, B, h1, h2, h9 => absurd h2 (by omega)
  | n + 1, many, b, g, S, B, h1, h2, h9 => by
    show ∃ u S', fnD 5 (b__law_grown (d__law_grown n)) [.ref b, .int many] S = .ok u S' ∧ _
    have a0 : App S (S ++ [Cell.lst []]) := .app
    have w0 := appWk a0 B
    have lb := B.lb
    have lg := B.lg
    obtain ⟨l, w4, ys, S1, r1, r2, r3, r4, r5⟩ := gr_loop (D := d__law_grown n) (b := b) (g := g) (j := S.length) (c := many - 1) (by omega) (by omega) (fun k S hk hk2 B => grown_ok n k b g S B hk (by omega) (by omega)) (some (.int many)) 9 (many - 1) [] none (S ++ [Cell.lst []]) most w0.bag last_get (fun x hx => nomatch hx) (by omega) (by omega) (by simp) (by decide)
    obtain ⟨d, S2, q1, d1, d2, w2⟩ := pick_wk (b := b) (g := g) (many := 2) r5.bag (by decide) (by decide)
    have e2 : S2[S.length]? = some (.lst ys) := by rw [w2.st.same S.length (by omega) (by omega) (List.getElem?_eq_some_iff.mp r2).1]; exact r2
    have et : fTuple [.ref S.length] S2 = some (.tup ys, S2) := by
      unfold fTuple
      simp only [e2]
      first | rfl | (unfold seqOf; simp only [e2])
    have z0 : ([] : List U).length ≤ sizeLine := by rw [size_is]; simp
    refine ⟨.tup [.int d, .tup ys], S2, ?_, .tup (by simp) fun x hx => ?_, (Wj.wk a0 r5).trans w2⟩
    · simp only [b__law_grown, mWh, OD.ev_bind, OD.ev_bindx, OD.ev_st, OD.ev_stx, OD.ev_nox, OD.ev_seq, OD.ev_seqr, OD.ev_seqx, OD.ev_lift, OD.ev_var, OD.ev_var1, OD.ev_k, OD.ev_op, OD.ev_op1, OD.ev_op2, OD.ev_un, OD.ev_un1, OD.ev_nil, OD.ev_cons, OD.ev_cons1, OD.ev_cons2, OD.ev_tup, OD.ev_tup1, OD.ev_lst, OD.ev_lst1, OD.ev_b, OD.ev_bl, OD.ev_b1, OD.ev_new, OD.ev_new1, OD.ev_m, OD.ev_m1, OD.ev_m2, OD.ev_and, OD.ev_andt, OD.ev_andf, OD.ev_or, OD.ev_ort, OD.ev_orf, OD.ev_not, OD.ev_not1, OD.ev_if, OD.ev_ift, OD.ev_iff, OD.ev_asb, OD.ev_asb1, OD.ev_tand, OD.ev_tandt, OD.ev_tandf, OD.ev_tor, OD.ev_tort, OD.ev_torf, OD.ev_tnot, OD.ev_tnot1, OD.ev_tru, OD.ev_tru1, OD.ev_o, OD.ev_is, OD.ev_is1, OD.ev_is2, OD.ev_ch, OD.ev_ch1, OD.ev_ch2, OD.ev_ch3t, OD.ev_ch3f, OD.ev_ch4, OD.ev_sl, OD.ev_sl1, OD.ev_sl2, OD.ev_sl3, OD.ev_on, OD.ev_os, OD.ev_os1, OD.ev_call, OD.ev_call1, OD.ev_asg, OD.ev_asg1, OD.ev_asgt, OD.ev_x, OD.ev_x1, OD.ev_r, OD.ev_r1, OD.ev_rn, OD.ev_skip, OD.ev_mseq, OD.ev_cont, OD.ev_break, OD.ev_ifs, OD.ev_ifst, OD.ev_ifsf, OD.ev_si, OD.ev_si1, OD.ev_si2, OD.ev_si3, OD.ev_si4, OD.ev_aug, OD.ev_aug0, OD.ev_aug1, OD.ev_aug2, OD.ev_fn, OD.ev_fnn, OD.ev_fnr, OD.ev_fnx, OD.ix_tup, OD.ix_lst, OD.ix_str, OD.at0, OD.at1, OD.at2, OD.at3, OD.len_tup, OD.len_scr, OD.len_lst, OD.int_int, OD.add_int, OD.add_tup, OD.sub_int, OD.eq_int, OD.eq_bl, OD.eq_str, OD.lt_int, OD.le_int, OD.gt_int, OD.ge_int, OD.mod_int, OD.div_int, OD.mul_int, OD.ev_wh, OD.ev_whf, OD.ev_wht, OD.ev_wen, OD.ev_wer, OD.ev_mst, OD.ev_mst1, OD.ev_msl, OD.ev_msl1, OD.ev_msl2, OD.ev_mscr, OD.ev_ent, OD.ev_ent1, OD.ev_zip, OD.ev_zip1, OD.ev_zip2, OD.ev_rg, OD.ev_lc, OD.ev_for, OD.ev_ext, OD.ev_ext1, List.getElem?_cons_zero, List.getElem?_cons_succ, List.set_cons_zero, List.set_cons_succ, List.replicate_succ, List.replicate_zero, List.map_cons, List.map_nil, List.length_cons, List.length_nil, List.cons_append, List.nil_append, List.append_nil, Nat.zero_add, Nat.reduceAdd, Nat.reduceSub, Nat.sub_self, ev_lst1 z0, r1, ev_call1 (us := [U.ref b, U.int 2]) (n := 2) rfl, q1, et, ev_tup1 two_line]
    · rcases List.mem_cons.mp hx with rfl | hx
      · exact .int d
      · rw [List.mem_singleton.mp hx]
        exact .tup r4 fun y hy => (r3 y hy).keep w2.keep
end K01
end

section
set_option Elab.async false
set_option linter.all false
set_option autoImplicit false
set_option maxRecDepth 100000
set_option maxHeartbeats 4000000
/-! the plain law of k01: things changed -/
namespace K01
open PySem L2 OD
theorem cut_mem {xs : List U} {lo hi : Option Int} {x : U} (h : x ∈ cutU xs lo hi) : x ∈ xs := List.mem_of_mem_drop (List.mem_of_mem_take h)
theorem cut_le {xs : List U} {lo hi : Option Int} : (cutU xs lo hi).length ≤ xs.length := by
  unfold cutU
  rw [List.length_take, List.length_drop]
  omega
theorem six {n d : Nat} {k : Nat} : HT.sIx n d (some (k : Int)) = min k n := HT.sIx_nat n d k
theorem cut_take {xs : List U} {k : Nat} : (cutU xs none (some (k : Int))).length = min k xs.length := by
  unfold cutU
  rw [six, HT.sIx_none, List.length_take, List.length_drop]
  omega
theorem cut_drop {xs : List U} {k : Nat} : (cutU xs (some (k : Int)) none).length = xs.length - k := by
  unfold cutU
  rw [six, HT.sIx_none, List.length_take, List.length_drop]
  omega
theorem cut_mid {xs : List U} {k m : Nat} : (cutU xs (some (k : Int)) (some (m : Int))).length = min m xs.length - min k xs.length := by
  unfold cutU
  rw [six, six, List.length_take, List.length_drop]
  omega
theorem sl_tup {S : Sto} {xs : List U} {lo hi : Option Int} : fSl (.tup xs) lo hi S = some (.tup (cutU xs lo hi), S) := rfl
theorem rev_tup {S : Sto} {xs : List U} : fRevT (.tup xs) S = some (.tup xs.reverse, S) := rfl
theorem gd_list {M : Nat} {S : Sto} {xs : List U} (hl : xs.length ≤ M) (h : ∀ x, x ∈ xs → Gd M S x) : Gd M S (.tup xs) := .tup hl h
theorem changed_ok : ∀ (n L : Nat) (thing odd : U) (deep : Int) (b g : Nat) (S : Sto), Bag b g S → Gd L S thing → Gd L S odd → 0 ≤ deep → deep < n → L ≤ 1000 →
    ∃ u S', d__law_changed n [.ref b, thing, odd, .int deep] S = .ok u S' ∧ Gd (L + 1) S' u ∧ Wk b g S S'
  | 0, L, thing, odd, deep, b, g, S, B, gt, go, h0, h1, hL => absurd h1 (by omega)
  | n + 1, L, thing, odd, deep, b, g, S, B, gt, go, h0, h1, hL => by
    show ∃ u S', fnD 6 (b__law_changed (d__law_changed n)) [.ref b, thing, odd, .int deep] S = .ok u S' ∧ _
    have go1 : Gd (L + 1) S odd := go.more (by omega)
    have wr : Wk b g S S := ⟨B, .refl, .refl⟩
    have tI := isTup gt
    cases ht : tyA thing .tup with
    | false =>
      refine ⟨odd, S, ?_, go1, wr⟩
      simp only [b__law_changed, OD.ev_bind, OD.ev_bindx, OD.ev_st, OD.ev_stx, OD.ev_nox, OD.ev_seq, OD.ev_seqr, OD.ev_seqx, OD.ev_lift, OD.ev_var, OD.ev_var1, OD.ev_k, OD.ev_op, OD.ev_op1, OD.ev_op2, OD.ev_un, OD.ev_un1, OD.ev_nil, OD.ev_cons, OD.ev_cons1, OD.ev_cons2, OD.ev_tup, OD.ev_tup1, OD.ev_lst, OD.ev_lst1, OD.ev_b, OD.ev_bl, OD.ev_b1, OD.ev_new, OD.ev_new1, OD.ev_m, OD.ev_m1, OD.ev_m2, OD.ev_and, OD.ev_andt, OD.ev_andf, OD.ev_or, OD.ev_ort, OD.ev_orf, OD.ev_not, OD.ev_not1, OD.ev_if, OD.ev_ift, OD.ev_iff, OD.ev_asb, OD.ev_asb1, OD.ev_tand, OD.ev_tandt, OD.ev_tandf, OD.ev_tor, OD.ev_tort, OD.ev_torf, OD.ev_tnot, OD.ev_tnot1, OD.ev_tru, OD.ev_tru1, OD.ev_o, OD.ev_is, OD.ev_is1, OD.ev_is2, OD.ev_ch, OD.ev_ch1, OD.ev_ch2, OD.ev_ch3t, OD.ev_ch3f, OD.ev_ch4, OD.ev_sl, OD.ev_sl1, OD.ev_sl2, OD.ev_sl3, OD.ev_on, OD.ev_os, OD.ev_os1, OD.ev_call, OD.ev_call1, OD.ev_asg, OD.ev_asg1, OD.ev_asgt, OD.ev_x, OD.ev_x1, OD.ev_r, OD.ev_r1, OD.ev_rn, OD.ev_skip, OD.ev_mseq, OD.ev_cont, OD.ev_break, OD.ev_ifs, OD.ev_ifst, OD.ev_ifsf, OD.ev_si, OD.ev_si1, OD.ev_si2, OD.ev_si3, OD.ev_si4, OD.ev_aug, OD.ev_aug0, OD.ev_aug1, OD.ev_aug2, OD.ev_fn, OD.ev_fnn, OD.ev_fnr, OD.ev_fnx, OD.ix_tup, OD.ix_lst, OD.ix_str, OD.at0, OD.at1, OD.at2, OD.at3, OD.len_tup, OD.len_scr, OD.len_lst, OD.int_int, OD.add_int, OD.add_tup, OD.sub_int, OD.eq_int, OD.eq_bl, OD.eq_str, OD.lt_int, OD.le_int, OD.gt_int, OD.ge_int, OD.mod_int, OD.div_int, OD.mul_int, OD.ev_wh, OD.ev_whf, OD.ev_wht, OD.ev_wen, OD.ev_wer, OD.ev_mst, OD.ev_mst1, OD.ev_msl, OD.ev_msl1, OD.ev_msl2, OD.ev_mscr, OD.ev_ent, OD.ev_ent1, OD.ev_zip, OD.ev_zip1, OD.ev_zip2, OD.ev_rg, OD.ev_lc, OD.ev_for, OD.ev_ext, OD.ev_ext1, List.getElem?_cons_zero, List.getElem?_cons_succ, List.set_cons_zero, List.set_cons_succ, List.replicate_succ, List.replicate_zero, List.map_cons, List.map_nil, List.length_cons, List.length_nil, List.cons_append, List.nil_append, List.append_nil, Nat.zero_add, Nat.reduceAdd, Nat.reduceSub, Nat.sub_self, tI, ht, tru_bl, Bool.not_false]
    | true =>
      obtain ⟨xs, rfl⟩ : ∃ xs, thing = .tup xs := by
        cases thing <;> first | exact ⟨_, rfl⟩ | cases ht
      have hxl : xs.length ≤ L := by cases gt with | tup hl _ => exact hl
      have hxs := gd_tup gt
      by_cases hz : xs.length = 0
      · refine ⟨odd, S, ?_, go1, wr⟩
        have e0 : ((((xs.length : Nat) : Int)) == 0) = true := by rw [hz]; rfl
        simp only [b__law_changed, OD.ev_bind, OD.ev_bindx, OD.ev_st, OD.ev_stx, OD.ev_nox, OD.ev_seq, OD.ev_seqr, OD.ev_seqx, OD.ev_lift, OD.ev_var, OD.ev_var1, OD.ev_k, OD.ev_op, OD.ev_op1, OD.ev_op2, OD.ev_un, OD.ev_un1, OD.ev_nil, OD.ev_cons, OD.ev_cons1, OD.ev_cons2, OD.ev_tup, OD.ev_tup1, OD.ev_lst, OD.ev_lst1, OD.ev_b, OD.ev_bl, OD.ev_b1, OD.ev_new, OD.ev_new1, OD.ev_m, OD.ev_m1, OD.ev_m2, OD.ev_and, OD.ev_andt, OD.ev_andf, OD.ev_or, OD.ev_ort, OD.ev_orf, OD.ev_not, OD.ev_not1, OD.ev_if, OD.ev_ift, OD.ev_iff, OD.ev_asb, OD.ev_asb1, OD.ev_tand, OD.ev_tandt, OD.ev_tandf, OD.ev_tor, OD.ev_tort, OD.ev_torf, OD.ev_tnot, OD.ev_tnot1, OD.ev_tru, OD.ev_tru1, OD.ev_o, OD.ev_is, OD.ev_is1, OD.ev_is2, OD.ev_ch, OD.ev_ch1, OD.ev_ch2, OD.ev_ch3t, OD.ev_ch3f, OD.ev_ch4, OD.ev_sl, OD.ev_sl1, OD.ev_sl2, OD.ev_sl3, OD.ev_on, OD.ev_os, OD.ev_os1, OD.ev_call, OD.ev_call1, OD.ev_asg, OD.ev_asg1, OD.ev_asgt, OD.ev_x, OD.ev_x1, OD.ev_r, OD.ev_r1, OD.ev_rn, OD.ev_skip, OD.ev_mseq, OD.ev_cont, OD.ev_break, OD.ev_ifs, OD.ev_ifst, OD.ev_ifsf, OD.ev_si, OD.ev_si1, OD.ev_si2, OD.ev_si3, OD.ev_si4, OD.ev_aug, OD.ev_aug0, OD.ev_aug1, OD.ev_aug2, OD.ev_fn, OD.ev_fnn, OD.ev_fnr, OD.ev_fnx, OD.ix_tup, OD.ix_lst, OD.ix_str, OD.at0, OD.at1, OD.at2, OD.at3, OD.len_tup, OD.len_scr, OD.len_lst, OD.int_int, OD.add_int, OD.add_tup, OD.sub_int, OD.eq_int, OD.eq_bl, OD.eq_str, OD.lt_int, OD.le_int, OD.gt_int, OD.ge_int, OD.mod_int, OD.div_int, OD.mul_int, OD.ev_wh, OD.ev_whf, OD.ev_wht, OD.ev_wen, OD.ev_wer, OD.ev_mst, OD.ev_mst1, OD.ev_msl, OD.ev_msl1, OD.ev_msl2, OD.ev_mscr, OD.ev_ent, OD.ev_ent1, OD.ev_zip, OD.ev_zip1, OD.ev_zip2, OD.ev_rg, OD.ev_lc, OD.ev_for, OD.ev_ext, OD.ev_ext1, List.getElem?_cons_zero, List.getElem?_cons_succ, List.set_cons_zero, List.set_cons_succ, List.replicate_succ, List.replicate_zero, List.map_cons, List.map_nil, List.length_cons, List.length_nil, List.cons_append, List.nil_append, List.append_nil, Nat.zero_add, Nat.reduceAdd, Nat.reduceSub, Nat.sub_self, tI, ht, tru_bl, Bool.not_true, e0]
      · have e0 : ((((xs.length : Nat) : Int)) == 0) = false := beq_eq_false_iff_ne.mpr (by omega)
        by_cases hd : deep = 0
        · refine ⟨odd, S, ?_, go1, wr⟩
          have e1 : (deep == 0) = true := by rw [hd]; rfl
          simp only [b__law_changed, OD.ev_bind, OD.ev_bindx, OD.ev_st, OD.ev_stx, OD.ev_nox, OD.ev_seq, OD.ev_seqr, OD.ev_seqx, OD.ev_lift, OD.ev_var, OD.ev_var1, OD.ev_k, OD.ev_op, OD.ev_op1, OD.ev_op2, OD.ev_un, OD.ev_un1, OD.ev_nil, OD.ev_cons, OD.ev_cons1, OD.ev_cons2, OD.ev_tup, OD.ev_tup1, OD.ev_lst, OD.ev_lst1, OD.ev_b, OD.ev_bl, OD.ev_b1, OD.ev_new, OD.ev_new1, OD.ev_m, OD.ev_m1, OD.ev_m2, OD.ev_and, OD.ev_andt, OD.ev_andf, OD.ev_or, OD.ev_ort, OD.ev_orf, OD.ev_not, OD.ev_not1, OD.ev_if, OD.ev_ift, OD.ev_iff, OD.ev_asb, OD.ev_asb1, OD.ev_tand, OD.ev_tandt, OD.ev_tandf, OD.ev_tor, OD.ev_tort, OD.ev_torf, OD.ev_tnot, OD.ev_tnot1, OD.ev_tru, OD.ev_tru1, OD.ev_o, OD.ev_is, OD.ev_is1, OD.ev_is2, OD.ev_ch, OD.ev_ch1, OD.ev_ch2, OD.ev_ch3t, OD.ev_ch3f, OD.ev_ch4, OD.ev_sl, OD.ev_sl1, OD.ev_sl2, OD.ev_sl3, OD.ev_on, OD.ev_os, OD.ev_os1, OD.ev_call, OD.ev_call1, OD.ev_asg, OD.ev_asg1, OD.ev_asgt, OD.ev_x, OD.ev_x1, OD.ev_r, OD.ev_r1, OD.ev_rn, OD.ev_skip, OD.ev_mseq, OD.ev_cont, OD.ev_break, OD.ev_ifs, OD.ev_ifst, OD.ev_ifsf, OD.ev_si, OD.ev_si1, OD.ev_si2, OD.ev_si3, OD.ev_si4, OD.ev_aug, OD.ev_aug0, OD.ev_aug1, OD.ev_aug2, OD.ev_fn, OD.ev_fnn, OD.ev_fnr, OD.ev_fnx, OD.ix_tup, OD.ix_lst, OD.ix_str, OD.at0, OD.at1, OD.at2, OD.at3, OD.len_tup, OD.len_scr, OD.len_lst, OD.int_int, OD.add_int, OD.add_tup, OD.sub_int, OD.eq_int, OD.eq_bl, OD.eq_str, OD.lt_int, OD.le_int, OD.gt_int, OD.ge_int, OD.mod_int, OD.div_int, OD.mul_int, OD.ev_wh, OD.ev_whf, OD.ev_wht, OD.ev_wen, OD.ev_wer, OD.ev_mst, OD.ev_mst1, OD.ev_msl, OD.ev_msl1, OD.ev_msl2, OD.ev_mscr, OD.ev_ent, OD.ev_ent1, OD.ev_zip, OD.ev_zip1, OD.ev_zip2, OD.ev_rg, OD.ev_lc, OD.ev_for, OD.ev_ext, OD.ev_ext1, List.getElem?_cons_zero, List.getElem?_cons_succ, List.set_cons_zero, List.set_cons_succ, List.replicate_succ, List.replicate_zero, List.map_cons, List.map_nil, List.length_cons, List.length_nil, List.cons_append, List.nil_append, List.append_nil, Nat.zero_add, Nat.reduceAdd, Nat.reduceSub, Nat.sub_self, tI, ht, tru_bl, Bool.not_true, e0, e1]
        · have e1 : (deep == 0) = false := beq_eq_false_iff_ne.mpr hd
          obtain ⟨d, S1, q1, a1, a2, w1⟩ := pick_wk (b := b) (g := g) (many := 6) B (by decide) (by decide)
          by_cases hd0 : d = 0
          · refine ⟨odd, S1, ?_, go1.keep w1.keep, w1⟩
            have e2 : (d == 0) = true := by rw [hd0]; rfl
            simp only [b__law_changed, OD.ev_bind, OD.ev_bindx, OD.ev_st, OD.ev_stx, OD.ev_nox, OD.ev_seq, OD.ev_seqr, OD.ev_seqx, OD.ev_lift, OD.ev_var, OD.ev_var1, OD.ev_k, OD.ev_op, OD.ev_op1, OD.ev_op2, OD.ev_un, OD.ev_un1, OD.ev_nil, OD.ev_cons, OD.ev_cons1, OD.ev_cons2, OD.ev_tup, OD.ev_tup1, OD.ev_lst, OD.ev_lst1, OD.ev_b, OD.ev_bl, OD.ev_b1, OD.ev_new, OD.ev_new1, OD.ev_m, OD.ev_m1, OD.ev_m2, OD.ev_and, OD.ev_andt, OD.ev_andf, OD.ev_or, OD.ev_ort, OD.ev_orf, OD.ev_not, OD.ev_not1, OD.ev_if, OD.ev_ift, OD.ev_iff, OD.ev_asb, OD.ev_asb1, OD.ev_tand, OD.ev_tandt, OD.ev_tandf, OD.ev_tor, OD.ev_tort, OD.ev_torf, OD.ev_tnot, OD.ev_tnot1, OD.ev_tru, OD.ev_tru1, OD.ev_o, OD.ev_is, OD.ev_is1, OD.ev_is2, OD.ev_ch, OD.ev_ch1, OD.ev_ch2, OD.ev_ch3t, OD.ev_ch3f, OD.ev_ch4, OD.ev_sl, OD.ev_sl1, OD.ev_sl2, OD.ev_sl3, OD.ev_on, OD.ev_os, OD.ev_os1, OD.ev_call, OD.ev_call1, OD.ev_asg, OD.ev_asg1, OD.ev_asgt, OD.ev_x, OD.ev_x1, OD.ev_r, OD.ev_r1, OD.ev_rn, OD.ev_skip, OD.ev_mseq, OD.ev_cont, OD.ev_break, OD.ev_ifs, OD.ev_ifst, OD.ev_ifsf, OD.ev_si, OD.ev_si1, OD.ev_si2, OD.ev_si3, OD.ev_si4, OD.ev_aug, OD.ev_aug0, OD.ev_aug1, OD.ev_aug2, OD.ev_fn, OD.ev_fnn, OD.ev_fnr, OD.ev_fnx, OD.ix_tup, OD.ix_lst, OD.ix_str, OD.at0, OD.at1, OD.at2, OD.at3, OD.len_tup, OD.len_scr, OD.len_lst, OD.int_int, OD.add_int, OD.add_tup, OD.sub_int, OD.eq_int, OD.eq_bl, OD.eq_str, OD.lt_int, OD.le_int, OD.gt_int, OD.ge_int, OD.mod_int, OD.div_int, OD.mul_int, OD.ev_wh, OD.ev_whf, OD.ev_wht, OD.ev_wen, OD.ev_wer, OD.ev_mst, OD.ev_mst1, OD.ev_msl, OD.ev_msl1, OD.ev_msl2, OD.ev_mscr, OD.ev_ent, OD.ev_ent1, OD.ev_zip, OD.ev_zip1, OD.ev_zip2, OD.ev_rg, OD.ev_lc, OD.ev_for, OD.ev_ext, OD.ev_ext1, List.getElem?_cons_zero, List.getElem?_cons_succ, List.set_cons_zero, List.set_cons_succ, List.replicate_succ, List.replicate_zero, List.map_cons, List.map_nil, List.length_cons, List.length_nil, List.cons_append, List.nil_append, List.append_nil, Nat.zero_add, Nat.reduceAdd, Nat.reduceSub, Nat.sub_self, tI, ht, tru_bl, Bool.not_true, e0, e1, ev_call1 (us := [U.ref b, U.int 6]) (n := 2) rfl, q1, e2]
          · have e2 : (d == 0) = false := beq_eq_false_iff_ne.mpr hd0
            obtain ⟨at_, S2, q2, c1, c2, w2⟩ := pick_wk (b := b) (g := g) (many := (xs.length : Nat)) w1.bag (by omega) (by omega)
            obtain ⟨k, rfl⟩ : ∃ k : Nat, at_ = (k : Int) := ⟨at_.toNat, by omega⟩
            have hk : k < xs.length := by omega
            obtain ⟨way, S3, q3, f1, f2, w3⟩ := pick_wk (b := b) (g := g) (many := 10) w2.bag (by decide) (by decide)
            have w13 := (w1.trans w2).trans w3
            have gx : ∀ x, x ∈ xs → Gd (L + 1) S3 x := fun x hx => ((hxs x hx).more (by omega)).keep w13.keep
            have k1 : ((k : Int) + 1) = ((k + 1 : Nat) : Int) := by omega
            have k2 : ((k : Int) + 2) = ((k + 2 : Nat) : Int) := by omega
            have bnd : ∀ (lo hi : Option Int), (cutU xs lo hi).length ≤ 1000 := fun lo hi => Nat.le_trans cut_le (by omega)
            by_cases h0w : way = 0
            · have e3 : (way == 0) = true := by rw [h0w]; rfl
              have s1 : (cutU xs none (some (k : Int))).length + (cutU xs (some ((k + 1 : Nat) : Int)) none).length ≤ sizeLine := by rw [size_is]; have := bnd none (some (k : Int)); have := bnd (some ((k + 1 : Nat) : Int)) none; omega
              refine ⟨_, S3, ?_, gd_list (xs := cutU xs none (some (k : Int)) ++ cutU xs (some ((k + 1 : Nat) : Int)) none) ?_ fun x hx => ?_, w13⟩
              · simp only [b__law_changed, OD.ev_bind, OD.ev_bindx, OD.ev_st, OD.ev_stx, OD.ev_nox, OD.ev_seq, OD.ev_seqr, OD.ev_seqx, OD.ev_lift, OD.ev_var, OD.ev_var1, OD.ev_k, OD.ev_op, OD.ev_op1, OD.ev_op2, OD.ev_un, OD.ev_un1, OD.ev_nil, OD.ev_cons, OD.ev_cons1, OD.ev_cons2, OD.ev_tup, OD.ev_tup1, OD.ev_lst, OD.ev_lst1, OD.ev_b, OD.ev_bl, OD.ev_b1, OD.ev_new, OD.ev_new1, OD.ev_m, OD.ev_m1, OD.ev_m2, OD.ev_and, OD.ev_andt, OD.ev_andf, OD.ev_or, OD.ev_ort, OD.ev_orf, OD.ev_not, OD.ev_not1, OD.ev_if, OD.ev_ift, OD.ev_iff, OD.ev_asb, OD.ev_asb1, OD.ev_tand, OD.ev_tandt, OD.ev_tandf, OD.ev_tor, OD.ev_tort, OD.ev_torf, OD.ev_tnot, OD.ev_tnot1, OD.ev_tru, OD.ev_tru1, OD.ev_o, OD.ev_is, OD.ev_is1, OD.ev_is2, OD.ev_ch, OD.ev_ch1, OD.ev_ch2, OD.ev_ch3t, OD.ev_ch3f, OD.ev_ch4, OD.ev_sl, OD.ev_sl1, OD.ev_sl2, OD.ev_sl3, OD.ev_on, OD.ev_os, OD.ev_os1, OD.ev_call, OD.ev_call1, OD.ev_asg, OD.ev_asg1, OD.ev_asgt, OD.ev_x, OD.ev_x1, OD.ev_r, OD.ev_r1, OD.ev_rn, OD.ev_skip, OD.ev_mseq, OD.ev_cont, OD.ev_break, OD.ev_ifs, OD.ev_ifst, OD.ev_ifsf, OD.ev_si, OD.ev_si1, OD.ev_si2, OD.ev_si3, OD.ev_si4, OD.ev_aug, OD.ev_aug0, OD.ev_aug1, OD.ev_aug2, OD.ev_fn, OD.ev_fnn, OD.ev_fnr, OD.ev_fnx, OD.ix_tup, OD.ix_lst, OD.ix_str, OD.at0, OD.at1, OD.at2, OD.at3, OD.len_tup, OD.len_scr, OD.len_lst, OD.int_int, OD.add_int, OD.add_tup, OD.sub_int, OD.eq_int, OD.eq_bl, OD.eq_str, OD.lt_int, OD.le_int, OD.gt_int, OD.ge_int, OD.mod_int, OD.div_int, OD.mul_int, OD.ev_wh, OD.ev_whf, OD.ev_wht, OD.ev_wen, OD.ev_wer, OD.ev_mst, OD.ev_mst1, OD.ev_msl, OD.ev_msl1, OD.ev_msl2, OD.ev_mscr, OD.ev_ent, OD.ev_ent1, OD.ev_zip, OD.ev_zip1, OD.ev_zip2, OD.ev_rg, OD.ev_lc, OD.ev_for, OD.ev_ext, OD.ev_ext1, List.getElem?_cons_zero, List.getElem?_cons_succ, List.set_cons_zero, List.set_cons_succ, List.replicate_succ, List.replicate_zero, List.map_cons, List.map_nil, List.length_cons, List.length_nil, List.cons_append, List.nil_append, List.append_nil, Nat.zero_add, Nat.reduceAdd, Nat.reduceSub, Nat.sub_self, tI, ht, tru_bl, Bool.not_true, e0, e1, ev_call1 (us := [U.ref b, U.int 6]) (n := 2) rfl, q1, e2, ev_call1 (us := [U.ref b, U.int xs.length]) (n := 2) rfl, q2, ev_call1 (us := [U.ref b, U.int 10]) (n := 2) rfl, q3, e3, sl_tup, k1, OD.add_tup s1]
              · rw [List.length_append, cut_take, cut_drop]; omega
              · rcases List.mem_append.mp hx with q | q <;> exact gx x (cut_mem q)
            · have e3 : (way == 0) = false := beq_eq_false_iff_ne.mpr h0w
              by_cases h1w : way = 1
              · have e4 : (way == 1) = true := by rw [h1w]; rfl
                have s1 : (cutU xs none (some (k : Int))).length + (cutU xs (some (k : Int)) (some ((k + 1 : Nat) : Int))).length ≤ sizeLine := by rw [size_is]; have := bnd none (some (k : Int)); have := bnd (some (k : Int)) (some ((k + 1 : Nat) : Int)); omega
                have s2 : (cutU xs none (some (k : Int)) ++ cutU xs (some (k : Int)) (some ((k + 1 : Nat) : Int))).length + (cutU xs (some (k : Int)) none).length ≤ sizeLine := by rw [size_is, List.length_append]; have := bnd none (some (k : Int)); have := bnd (some (k : Int)) (some ((k + 1 : Nat) : Int)); have := bnd (some (k : Int)) none; omega
                refine ⟨_, S3, ?_, gd_list (xs := (cutU xs none (some (k : Int)) ++ cutU xs (some (k : Int)) (some ((k + 1 : Nat) : Int))) ++ cutU xs (some (k : Int)) none) ?_ fun x hx => ?_, w13⟩
                · simp only [b__law_changed, OD.ev_bind, OD.ev_bindx, OD.ev_st, OD.ev_stx, OD.ev_nox, OD.ev_seq, OD.ev_seqr, OD.ev_seqx, OD.ev_lift, OD.ev_var, OD.ev_var1, OD.ev_k, OD.ev_op, OD.ev_op1, OD.ev_op2, OD.ev_un, OD.ev_un1, OD.ev_nil, OD.ev_cons, OD.ev_cons1, OD.ev_cons2, OD.ev_tup, OD.ev_tup1, OD.ev_lst, OD.ev_lst1, OD.ev_b, OD.ev_bl, OD.ev_b1, OD.ev_new, OD.ev_new1, OD.ev_m, OD.ev_m1, OD.ev_m2, OD.ev_and, OD.ev_andt, OD.ev_andf, OD.ev_or, OD.ev_ort, OD.ev_orf, OD.ev_not, OD.ev_not1, OD.ev_if, OD.ev_ift, OD.ev_iff, OD.ev_asb, OD.ev_asb1, OD.ev_tand, OD.ev_tandt, OD.ev_tandf, OD.ev_tor, OD.ev_tort, OD.ev_torf, OD.ev_tnot, OD.ev_tnot1, OD.ev_tru, OD.ev_tru1, OD.ev_o, OD.ev_is, OD.ev_is1, OD.ev_is2, OD.ev_ch, OD.ev_ch1, OD.ev_ch2, OD.ev_ch3t, OD.ev_ch3f, OD.ev_ch4, OD.ev_sl, OD.ev_sl1, OD.ev_sl2, OD.ev_sl3, OD.ev_on, OD.ev_os, OD.ev_os1, OD.ev_call, OD.ev_call1, OD.ev_asg, OD.ev_asg1, OD.ev_asgt, OD.ev_x, OD.ev_x1, OD.ev_r, OD.ev_r1, OD.ev_rn, OD.ev_skip, OD.ev_mseq, OD.ev_cont, OD.ev_break, OD.ev_ifs, OD.ev_ifst, OD.ev_ifsf, OD.ev_si, OD.ev_si1, OD.ev_si2, OD.ev_si3, OD.ev_si4, OD.ev_aug, OD.ev_aug0, OD.ev_aug1, OD.ev_aug2, OD.ev_fn, OD.ev_fnn, OD.ev_fnr, OD.ev_fnx, OD.ix_tup, OD.ix_lst, OD.ix_str, OD.at0, OD.at1, OD.at2, OD.at3, OD.len_tup, OD.len_scr, OD.len_lst, OD.int_int, OD.add_int, OD.add_tup, OD.sub_int, OD.eq_int, OD.eq_bl, OD.eq_str, OD.lt_int, OD.le_int, OD.gt_int, OD.ge_int, OD.mod_int, OD.div_int, OD.mul_int, OD.ev_wh, OD.ev_whf, OD.ev_wht, OD.ev_wen, OD.ev_wer, OD.ev_mst, OD.ev_mst1, OD.ev_msl, OD.ev_msl1, OD.ev_msl2, OD.ev_mscr, OD.ev_ent, OD.ev_ent1, OD.ev_zip, OD.ev_zip1, OD.ev_zip2, OD.ev_rg, OD.ev_lc, OD.ev_for, OD.ev_ext, OD.ev_ext1, List.getElem?_cons_zero, List.getElem?_cons_succ, List.set_cons_zero, List.set_cons_succ, List.replicate_succ, List.replicate_zero, List.map_cons, List.map_nil, List.length_cons, List.length_nil, List.cons_append, List.nil_append, List.append_nil, Nat.zero_add, Nat.reduceAdd, Nat.reduceSub, Nat.sub_self, tI, ht, tru_bl, Bool.not_true, e0, e1, ev_call1 (us := [U.ref b, U.int 6]) (n := 2) rfl, q1, e2, ev_call1 (us := [U.ref b, U.int xs.length]) (n := 2) rfl, q2, ev_call1 (us := [U.ref b, U.int 10]) (n := 2) rfl, q3, e3, e4, sl_tup, k1, OD.add_tup s1, OD.add_tup s2]
                · rw [List.length_append, List.length_append, cut_take, cut_drop, cut_mid]; omega
                · rcases List.mem_append.mp hx with q | q
                  · rcases List.mem_append.mp q with q | q <;> exact gx x (cut_mem q)
                  · exact gx x (cut_mem q)
              · have e4 : (way == 1) = false := beq_eq_false_iff_ne.mpr h1w
                by_cases h2w : way = 2
                · have e5 : (way == 2) = true := by rw [h2w]; rfl
                  have s1 : (cutU xs none (some (k : Int))).length + (cutU xs (some (k : Int)) (some ((k + 2 : Nat) : Int))).reverse.length ≤ sizeLine := by rw [size_is, List.length_reverse]; have := bnd none (some (k : Int)); have := bnd (some (k : Int)) (some ((k + 2 : Nat) : Int)); omega
                  have s2 : (cutU xs none (some (k : Int)) ++ (cutU xs (some (k : Int)) (some ((k + 2 : Nat) : Int))).reverse).length + (cutU xs (some ((k + 2 : Nat) : Int)) none).length ≤ sizeLine := by rw [size_is, List.length_append, List.length_reverse]; have := bnd none (some (k : Int)); have := bnd (some (k : Int)) (some ((k + 2 : Nat) : Int)); have := bnd (some ((k + 2 : Nat) : Int)) none; omega
                  refine ⟨_, S3, ?_, gd_list (xs := (cutU xs none (some (k : Int)) ++ (cutU xs (some (k : Int)) (some ((k + 2 : Nat) : Int))).reverse) ++ cutU xs (some ((k + 2 : Nat) : Int)) none) ?_ fun x hx => ?_, w13⟩
                  · simp only [b__law_changed, OD.ev_bind, OD.ev_bindx, OD.ev_st, OD.ev_stx, OD.ev_nox, OD.ev_seq, OD.ev_seqr, OD.ev_seqx, OD.ev_lift, OD.ev_var, OD.ev_var1, OD.ev_k, OD.ev_op, OD.ev_op1, OD.ev_op2, OD.ev_un, OD.ev_un1, OD.ev_nil, OD.ev_cons, OD.ev_cons1, OD.ev_cons2, OD.ev_tup, OD.ev_tup1, OD.ev_lst, OD.ev_lst1, OD.ev_b, OD.ev_bl, OD.ev_b1, OD.ev_new, OD.ev_new1, OD.ev_m, OD.ev_m1, OD.ev_m2, OD.ev_and, OD.ev_andt, OD.ev_andf, OD.ev_or, OD.ev_ort, OD.ev_orf, OD.ev_not, OD.ev_not1, OD.ev_if, OD.ev_ift, OD.ev_iff, OD.ev_asb, OD.ev_asb1, OD.ev_tand, OD.ev_tandt, OD.ev_tandf, OD.ev_tor, OD.ev_tort, OD.ev_torf, OD.ev_tnot, OD.ev_tnot1, OD.ev_tru, OD.ev_tru1, OD.ev_o, OD.ev_is, OD.ev_is1, OD.ev_is2, OD.ev_ch, OD.ev_ch1, OD.ev_ch2, OD.ev_ch3t, OD.ev_ch3f, OD.ev_ch4, OD.ev_sl, OD.ev_sl1, OD.ev_sl2, OD.ev_sl3, OD.ev_on, OD.ev_os, OD.ev_os1, OD.ev_call, OD.ev_call1, OD.ev_asg, OD.ev_asg1, OD.ev_asgt, OD.ev_x, OD.ev_x1, OD.ev_r, OD.ev_r1, OD.ev_rn, OD.ev_skip, OD.ev_mseq, OD.ev_cont, OD.ev_break, OD.ev_ifs, OD.ev_ifst, OD.ev_ifsf, OD.ev_si, OD.ev_si1, OD.ev_si2, OD.ev_si3, OD.ev_si4, OD.ev_aug, OD.ev_aug0, OD.ev_aug1, OD.ev_aug2, OD.ev_fn, OD.ev_fnn, OD.ev_fnr, OD.ev_fnx, OD.ix_tup, OD.ix_lst, OD.ix_str, OD.at0, OD.at1, OD.at2, OD.at3, OD.len_tup, OD.len_scr, OD.len_lst, OD.int_int, OD.add_int, OD.add_tup, OD.sub_int, OD.eq_int, OD.eq_bl, OD.eq_str, OD.lt_int, OD.le_int, OD.gt_int, OD.ge_int, OD.mod_int, OD.div_int, OD.mul_int, OD.ev_wh, OD.ev_whf, OD.ev_wht, OD.ev_wen, OD.ev_wer, OD.ev_mst, OD.ev_mst1, OD.ev_msl, OD.ev_msl1, OD.ev_msl2, OD.ev_mscr, OD.ev_ent, OD.ev_ent1, OD.ev_zip, OD.ev_zip1, OD.ev_zip2, OD.ev_rg, OD.ev_lc, OD.ev_for, OD.ev_ext, OD.ev_ext1, List.getElem?_cons_zero, List.getElem?_cons_succ, List.set_cons_zero, List.set_cons_succ, List.replicate_succ, List.replicate_zero, List.map_cons, List.map_nil, List.length_cons, List.length_nil, List.cons_append, List.nil_append, List.append_nil, Nat.zero_add, Nat.reduceAdd, Nat.reduceSub, Nat.sub_self, tI, ht, tru_bl, Bool.not_true, e0, e1, ev_call1 (us := [U.ref b, U.int 6]) (n := 2) rfl, q1, e2, ev_call1 (us := [U.ref b, U.int xs.length]) (n := 2) rfl, q2, ev_call1 (us := [U.ref b, U.int 10]) (n := 2) rfl, q3, e3, e4, e5, sl_tup, k2, rev_tup, OD.add_tup s1, OD.add_tup s2]
                  · rw [List.length_append, List.length_append, List.length_reverse, cut_take, cut_drop, cut_mid]; omega
                  · rcases List.mem_append.mp hx with q | q
                    · rcases List.mem_append.mp q with q | q
                      · exact gx x (cut_mem q)
                      · exact gx x (cut_mem (List.mem_reverse.mp q))
                    · exact gx x (cut_mem q)
                · have e5 : (way == 2) = false := beq_eq_false_iff_ne.mpr h2w
                  obtain ⟨y, hy⟩ : ∃ y, xs[k]? = some y := ⟨_, List.getElem?_eq_getElem hk⟩
                  have hat : atI xs (k : Int) = some y := by
                    unfold atI ixN
                    rw [if_pos (by omega), if_pos (by omega)]
                    simpa using hy
                  have gy : Gd L S3 y := (hxs y (List.mem_of_getElem? hy)).keep w13.keep
                  obtain ⟨z, S4, q4, gz, w4⟩ := changed_ok n L y odd (deep - 1) b g S3 w13.bag gy (go.keep w13.keep) (by omega) (by omega) hL
                  have gx4 : ∀ x, x ∈ xs → Gd (L + 1) S4 x := fun x hx => (gx x hx).keep w4.keep
                  have s1 : (cutU xs none (some (k : Int))).length + ([z] : List U).length ≤ sizeLine := by rw [size_is, List.length_singleton]; have := bnd none (some (k : Int)); omega
                  have s2 : (cutU xs none (some (k : Int)) ++ [z]).length + (cutU xs (some ((k + 1 : Nat) : Int)) none).length ≤ sizeLine := by rw [size_is, List.length_append, List.length_singleton]; have := bnd none (some (k : Int)); have := bnd (some ((k + 1 : Nat) : Int)) none; omega
                  refine ⟨_, S4, ?_, gd_list (xs := (cutU xs none (some (k : Int)) ++ [z]) ++ cutU xs (some ((k + 1 : Nat) : Int)) none) ?_ fun x hx => ?_, w13.trans w4⟩
                  · simp only [b__law_changed, OD.ev_bind, OD.ev_bindx, OD.ev_st, OD.ev_stx, OD.ev_nox, OD.ev_seq, OD.ev_seqr, OD.ev_seqx, OD.ev_lift, OD.ev_var, OD.ev_var1, OD.ev_k, OD.ev_op, OD.ev_op1, OD.ev_op2, OD.ev_un, OD.ev_un1, OD.ev_nil, OD.ev_cons, OD.ev_cons1, OD.ev_cons2, OD.ev_tup, OD.ev_tup1, OD.ev_lst, OD.ev_lst1, OD.ev_b, OD.ev_bl, OD.ev_b1, OD.ev_new, OD.ev_new1, OD.ev_m, OD.ev_m1, OD.ev_m2, OD.ev_and, OD.ev_andt, OD.ev_andf, OD.ev_or, OD.ev_ort, OD.ev_orf, OD.ev_not, OD.ev_not1, OD.ev_if, OD.ev_ift, OD.ev_iff, OD.ev_asb, OD.ev_asb1, OD.ev_tand, OD.ev_tandt, OD.ev_tandf, OD.ev_tor, OD.ev_tort, OD.ev_torf, OD.ev_tnot, OD.ev_tnot1, OD.ev_tru, OD.ev_tru1, OD.ev_o, OD.ev_is, OD.ev_is1, OD.ev_is2, OD.ev_ch, OD.ev_ch1, OD.ev_ch2, OD.ev_ch3t, OD.ev_ch3f, OD.ev_ch4, OD.ev_sl, OD.ev_sl1, OD.ev_sl2, OD.ev_sl3, OD.ev_on, OD.ev_os, OD.ev_os1, OD.ev_call, OD.ev_call1, OD.ev_asg, OD.ev_asg1, OD.ev_asgt, OD.ev_x, OD.ev_x1, OD.ev_r, OD.ev_r1, OD.ev_rn, OD.ev_skip, OD.ev_mseq, OD.ev_cont, OD.ev_break, OD.ev_ifs, OD.ev_ifst, OD.ev_ifsf, OD.ev_si, OD.ev_si1, OD.ev_si2, OD.ev_si3, OD.ev_si4, OD.ev_aug, OD.ev_aug0, OD.ev_aug1, OD.ev_aug2, OD.ev_fn, OD.ev_fnn, OD.ev_fnr, OD.ev_fnx, OD.ix_tup, OD.ix_lst, OD.ix_str, OD.at0, OD.at1, OD.at2, OD.at3, OD.len_tup, OD.len_scr, OD.len_lst, OD.int_int, OD.add_int, OD.add_tup, OD.sub_int, OD.eq_int, OD.eq_bl, OD.eq_str, OD.lt_int, OD.le_int, OD.gt_int, OD.ge_int, OD.mod_int, OD.div_int, OD.mul_int, OD.ev_wh, OD.ev_whf, OD.ev_wht, OD.ev_wen, OD.ev_wer, OD.ev_mst, OD.ev_mst1, OD.ev_msl, OD.ev_msl1, OD.ev_msl2, OD.ev_mscr, OD.ev_ent, OD.ev_ent1, OD.ev_zip, OD.ev_zip1, OD.ev_zip2, OD.ev_rg, OD.ev_lc, OD.ev_for, OD.ev_ext, OD.ev_ext1, List.getElem?_cons_zero, List.getElem?_cons_succ, List.set_cons_zero, List.set_cons_succ, List.replicate_succ, List.replicate_zero, List.map_cons, List.map_nil, List.length_cons, List.length_nil, List.cons_append, List.nil_append, List.append_nil, Nat.zero_add, Nat.reduceAdd, Nat.reduceSub, Nat.sub_self, tI, ht, tru_bl, Bool.not_true, e0, e1, ev_call1 (us := [U.ref b, U.int 6]) (n := 2) rfl, q1, e2, ev_call1 (us := [U.ref b, U.int xs.length]) (n := 2) rfl, q2, ev_call1 (us := [U.ref b, U.int 10]) (n := 2) rfl, q3, e3, e4, e5, sl_tup, k1, OD.ix_tup hat, ev_call1 (us := [U.ref b, y, odd, U.int (deep - 1)]) (n := 4) rfl, q4, ev_tup1 one_line, OD.add_tup s1, OD.add_tup s2]
                  · rw [List.length_append, List.length_append, cut_take, cut_drop, List.length_singleton]; omega
                  · rcases List.mem_append.mp hx with q | q
                    · rcases List.mem_append.mp q with q | q
                      · exact gx4 x (cut_mem q)
                      · rw [List.mem_singleton.mp q]; exact gz
                    · exact gx4 x (cut_mem q)
end K01
end

section
set_option Elab.async false
set_option linter.all false
set_option autoImplicit false
set_option maxRecDepth 100000
set_option maxHeartbeats 4000000
/-! the plain law of k01: the bag and the program made -/
namespace K01
open PySem L2 OD
theorem cut_ints (ns : List Int) (lo hi : Option Int) : ∃ ms : List Int, cutU (ns.map U.int) lo hi = ms.map U.int ∧ ms.length ≤ ns.length := by
  refine ⟨cutU ns lo hi, ?_, ?_⟩
  · unfold cutU
    rw [List.map_take, List.map_drop, List.length_map]
  · unfold cutU
    rw [List.length_take, List.length_drop]
    omega
abbrev bBG : SM := (mAsg (.nm 1) (mOp fMod (mB fInt (mCons (mOp fAdd (mOp fAdd (mOp fMul (mVar 1) (mK (.int 69621))) (mOp fMod (mB fInt (mCons (mVar 2) mNil)) (mK (.int 1000003)))) (mK (.int 7))) mNil)) (mK (.int 2147483647))))
theorem bg_for {j : Nat} {ms : List Int} {S : Sto} {a d e : Option U} (h : S[j]? = some (.lst (ms.map U.int))) : ∀ (n i : Nat) (seed : Int) (c : Option U), i + n = ms.length → ∃ seed' c', forGo (.cel j) (.nm 2) bBG (n + 1) i [a, some (.int seed), c, d, e] S = .nx [a, some (.int seed'), c', d, e] S
  | n, i, seed, c, hi => by
    have hs : srcAt (.cel j) S = some (ms.map U.int) := by
      unfold srcAt
      simp only [h]
    unfold forGo
    rw [hs]
    show ∃ seed' c', (match (ms.map U.int)[i]? with
      | none => if i = (ms.map U.int).length then Out.nx [a, some (.int seed), c, d, e] S else .bad
      | some u => match setT (.nm 2) u [a, some (.int seed), c, d, e] with
        | none => .bad
        | some e' => loopEnd (forGo (.cel j) (.nm 2) bBG n (i + 1)) (bBG e' S)) = _
    cases hu : ms[i]? with
    | none =>
      have hl : ms.length ≤ i := List.getElem?_eq_none_iff.mp hu
      rw [List.getElem?_map, hu]
      refine ⟨seed, c, ?_⟩
      show (if i = (ms.map U.int).length then Out.nx [a, some (.int seed), c, d, e] S else .bad) = _
      rw [List.length_map, if_pos (by omega)]
    | some x =>
      have hlt : i < ms.length := (List.getElem?_eq_some_iff.mp hu).1
      rw [List.getElem?_map, hu]
      match n, hi with
      | 0, hi => exact absurd hi (by omega)
      | n + 1, hi =>
        obtain ⟨s', c', q⟩ := bg_for h n (i + 1) ((seed * 69621 + x % 1000003 + 7) % 2147483647) (some (.int x)) (by omega)
        refine ⟨s', c', ?_⟩
        rw [← q]
        have st : bBG [a, some (.int seed), some (.int x), d, e] S = .nx [a, some (.int ((seed * 69621 + x % 1000003 + 7) % 2147483647)), some (.int x), d, e] S := by
          simp only [OD.ev_bind, OD.ev_bindx, OD.ev_st, OD.ev_stx, OD.ev_nox, OD.ev_seq, OD.ev_seqr, OD.ev_seqx, OD.ev_lift, OD.ev_var, OD.ev_var1, OD.ev_k, OD.ev_op, OD.ev_op1, OD.ev_op2, OD.ev_un, OD.ev_un1, OD.ev_nil, OD.ev_cons, OD.ev_cons1, OD.ev_cons2, OD.ev_tup, OD.ev_tup1, OD.ev_lst, OD.ev_lst1, OD.ev_b, OD.ev_bl, OD.ev_b1, OD.ev_new, OD.ev_new1, OD.ev_m, OD.ev_m1, OD.ev_m2, OD.ev_and, OD.ev_andt, OD.ev_andf, OD.ev_or, OD.ev_ort, OD.ev_orf, OD.ev_not, OD.ev_not1, OD.ev_if, OD.ev_ift, OD.ev_iff, OD.ev_asb, OD.ev_asb1, OD.ev_tand, OD.ev_tandt, OD.ev_tandf, OD.ev_tor, OD.ev_tort, OD.ev_torf, OD.ev_tnot, OD.ev_tnot1, OD.ev_tru, OD.ev_tru1, OD.ev_o, OD.ev_is, OD.ev_is1, OD.ev_is2, OD.ev_ch, OD.ev_ch1, OD.ev_ch2, OD.ev_ch3t, OD.ev_ch3f, OD.ev_ch4, OD.ev_sl, OD.ev_sl1, OD.ev_sl2, OD.ev_sl3, OD.ev_on, OD.ev_os, OD.ev_os1, OD.ev_call, OD.ev_call1, OD.ev_asg, OD.ev_asg1, OD.ev_asgt, OD.ev_x, OD.ev_x1, OD.ev_r, OD.ev_r1, OD.ev_rn, OD.ev_skip, OD.ev_mseq, OD.ev_cont, OD.ev_break, OD.ev_ifs, OD.ev_ifst, OD.ev_ifsf, OD.ev_si, OD.ev_si1, OD.ev_si2, OD.ev_si3, OD.ev_si4, OD.ev_aug, OD.ev_aug0, OD.ev_aug1, OD.ev_aug2, OD.ev_fn, OD.ev_fnn, OD.ev_fnr, OD.ev_fnx, OD.ix_tup, OD.ix_lst, OD.ix_str, OD.at0, OD.at1, OD.at2, OD.at3, OD.len_tup, OD.len_scr, OD.len_lst, OD.int_int, OD.add_int, OD.add_tup, OD.sub_int, OD.eq_int, OD.eq_bl, OD.eq_str, OD.lt_int, OD.le_int, OD.gt_int, OD.ge_int, OD.mod_int, OD.div_int, OD.mul_int, OD.ev_wh, OD.ev_whf, OD.ev_wht, OD.ev_wen, OD.ev_wer, OD.ev_mst, OD.ev_mst1, OD.ev_msl, OD.ev_msl1, OD.ev_msl2, OD.ev_mscr, OD.ev_ent, OD.ev_ent1, OD.ev_zip, OD.ev_zip1, OD.ev_zip2, OD.ev_rg, OD.ev_lc, OD.ev_for, OD.ev_ext, OD.ev_ext1, List.getElem?_cons_zero, List.getElem?_cons_succ, List.set_cons_zero, List.set_cons_succ, List.replicate_succ, List.replicate_zero, List.map_cons, List.map_nil, List.length_cons, List.length_nil, List.cons_append, List.nil_append, List.append_nil, Nat.zero_add, Nat.reduceAdd, Nat.reduceSub, Nat.sub_self, mulS (show isSmall 69621 = true from rfl), mod_int (show (0 : Int) < 1000003 by decide), mod_int (show (0 : Int) < 2147483647 by decide)]
        show loopEnd (forGo (.cel j) (.nm 2) bBG (n + 1) (i + 1)) (bBG [a, some (.int seed), some (.int x), d, e] S) = _
        rw [st]
        rfl
theorem bg_lc {j : Nat} {ms : List Int} {S : Sto} {e : OD.Env} {tt : EM Bool} {te : EM U} (he : e.length = 5) (hz : ms.length ≤ 1000) (h : S[j]? = some (.lst (ms.map U.int))) (ht : ∀ x : Int, ∃ k y, tt ((e.set 2 none).set 2 (some (.int x))) S = .ok k S ∧ te ((e.set 2 none).set 2 (some (.int x))) S = .ok (.int y) S) :
    ∀ (n i : Nat) (acc : List Int), i + n = ms.length → acc.length ≤ i → ∃ gs : List Int, lcGo (.cel j) (.nm 2) [2] tt te e (n + 1) i (acc.map U.int) S = .ok (gs.map U.int) S
  | n, i, acc, hi, ha => by
    have hs : srcAt (.cel j) S = some (ms.map U.int) := by
      unfold srcAt
      simp only [h]
    unfold lcGo
    rw [hs]
    cases hu : ms[i]? with
    | none =>
      have hl : ms.length ≤ i := List.getElem?_eq_none_iff.mp hu
      refine ⟨acc, ?_⟩
      simp only [List.getElem?_map, hu, Option.map_none]
      rw [List.length_map, if_pos (by omega)]
    | some x =>
      have hlt : i < ms.length := (List.getElem?_eq_some_iff.mp hu).1
      obtain ⟨k, y, h1, h2⟩ := ht x
      match n, hi with
      | 0, hi => exact absurd hi (by omega)
      | n + 1, hi =>
        have ew : wipeE e [2] = e.set 2 none := rfl
        simp only [List.getElem?_map, hu, Option.map_some, setT, ew, h1, ev_nox]
        cases k with
        | true =>
          obtain ⟨gs, q⟩ := bg_lc he hz h ht n (i + 1) (acc ++ [y]) (by omega) (by simp; omega)
          refine ⟨gs, ?_⟩
          simp only [h2, ev_nox]
          rw [List.length_map, if_pos (by rw [size_is]; omega), ← q, List.map_append]
          rfl
        | false =>
          obtain ⟨gs, q⟩ := bg_lc he hz h ht n (i + 1) acc (by omega) (by omega)
          exact ⟨gs, q⟩
theorem abs_int {S : Sto} {i : Int} : fAbs [.int i] S = some (.int (if i < 0 then -i else i), S) := by
  unfold fAbs
  first | rfl | (split <;> simp_all) | (congr 2; split <;> omega)
theorem lc_ints {e : OD.Env} {S : Sto} (he : e.length = 5) : ∀ (ms : List Int), ms.length ≤ 1000 → cLc (.nm 2) [2] mYes (mB fInt (mCons (mVar 2) mNil)) e (.its (ms.map U.int)) S = .ok (ms.map U.int) S := by
  intro ms hz
  have key : ∀ (n i : Nat) (acc : List U), i + n = ms.length → acc.length = i → lcGo (.its (ms.map U.int)) (.nm 2) [2] mYes (mB fInt (mCons (mVar 2) mNil)) e (n + 1) i acc S = .ok (acc ++ (ms.drop i).map U.int) S := by
    intro n
    induction n with
    | zero =>
      intro i acc hi ha
      have e1 : (ms.map U.int)[i]? = none := by rw [List.getElem?_eq_none_iff, List.length_map]; omega
      unfold lcGo
      simp only [srcAt, e1]
      rw [List.length_map, if_pos (by omega), List.drop_eq_nil_of_le (by omega), List.map_nil, List.append_nil]
    | succ n ih =>
      intro i acc hi ha
      have hlt : i < ms.length := by omega
      have e1 : (ms.map U.int)[i]? = some (.int ms[i]) := by rw [List.getElem?_map, List.getElem?_eq_getElem hlt]; rfl
      have e2 : ((e.set 2 none).set 2 (some (.int ms[i])))[2]? = some (some (.int ms[i])) := List.getElem?_set_self (by rw [List.length_set, he]; decide)
      have ew : wipeE e [2] = e.set 2 none := rfl
      unfold lcGo
      simp only [srcAt, e1, setT, ew, mYes, ev_nox, OD.ev_bind, OD.ev_bindx, OD.ev_st, OD.ev_stx, OD.ev_nox, OD.ev_seq, OD.ev_seqr, OD.ev_seqx, OD.ev_lift, OD.ev_var, OD.ev_var1, OD.ev_k, OD.ev_op, OD.ev_op1, OD.ev_op2, OD.ev_un, OD.ev_un1, OD.ev_nil, OD.ev_cons, OD.ev_cons1, OD.ev_cons2, OD.ev_tup, OD.ev_tup1, OD.ev_lst, OD.ev_lst1, OD.ev_b, OD.ev_bl, OD.ev_b1, OD.ev_new, OD.ev_new1, OD.ev_m, OD.ev_m1, OD.ev_m2, OD.ev_and, OD.ev_andt, OD.ev_andf, OD.ev_or, OD.ev_ort, OD.ev_orf, OD.ev_not, OD.ev_not1, OD.ev_if, OD.ev_ift, OD.ev_iff, OD.ev_asb, OD.ev_asb1, OD.ev_tand, OD.ev_tandt, OD.ev_tandf, OD.ev_tor, OD.ev_tort, OD.ev_torf, OD.ev_tnot, OD.ev_tnot1, OD.ev_tru, OD.ev_tru1, OD.ev_o, OD.ev_is, OD.ev_is1, OD.ev_is2, OD.ev_ch, OD.ev_ch1, OD.ev_ch2, OD.ev_ch3t, OD.ev_ch3f, OD.ev_ch4, OD.ev_sl, OD.ev_sl1, OD.ev_sl2, OD.ev_sl3, OD.ev_on, OD.ev_os, OD.ev_os1, OD.ev_call, OD.ev_call1, OD.ev_asg, OD.ev_asg1, OD.ev_asgt, OD.ev_x, OD.ev_x1, OD.ev_r, OD.ev_r1, OD.ev_rn, OD.ev_skip, OD.ev_mseq, OD.ev_cont, OD.ev_break, OD.ev_ifs, OD.ev_ifst, OD.ev_ifsf, OD.ev_si, OD.ev_si1, OD.ev_si2, OD.ev_si3, OD.ev_si4, OD.ev_aug, OD.ev_aug0, OD.ev_aug1, OD.ev_aug2, OD.ev_fn, OD.ev_fnn, OD.ev_fnr, OD.ev_fnx, OD.ix_tup, OD.ix_lst, OD.ix_str, OD.at0, OD.at1, OD.at2, OD.at3, OD.len_tup, OD.len_scr, OD.len_lst, OD.int_int, OD.add_int, OD.add_tup, OD.sub_int, OD.eq_int, OD.eq_bl, OD.eq_str, OD.lt_int, OD.le_int, OD.gt_int, OD.ge_int, OD.mod_int, OD.div_int, OD.mul_int, OD.ev_wh, OD.ev_whf, OD.ev_wht, OD.ev_wen, OD.ev_wer, OD.ev_mst, OD.ev_mst1, OD.ev_msl, OD.ev_msl1, OD.ev_msl2, OD.ev_mscr, OD.ev_ent, OD.ev_ent1, OD.ev_zip, OD.ev_zip1, OD.ev_zip2, OD.ev_rg, OD.ev_lc, OD.ev_for, OD.ev_ext, OD.ev_ext1, List.getElem?_cons_zero, List.getElem?_cons_succ, List.set_cons_zero, List.set_cons_succ, List.replicate_succ, List.replicate_zero, List.map_cons, List.map_nil, List.length_cons, List.length_nil, List.cons_append, List.nil_append, List.append_nil, Nat.zero_add, Nat.reduceAdd, Nat.reduceSub, Nat.sub_self, e2]
      rw [if_pos (by rw [size_is]; omega), ih (i + 1) (acc ++ [U.int ms[i]]) (by omega) (by simp [ha])]
      rw [List.drop_eq_getElem_cons hlt, List.map_cons, List.append_assoc]
      rfl
  rw [lc_run (us := ms.map U.int) rfl, List.length_map, key ms.length 0 [] (by omega) rfl]
  rfl
theorem sum_ok {S : Sto} (ms : List Int) : ∃ t, fSumL (ms.map U.int) S = some (.int t, S) := by
  unfold fSumL
  rw [ints_ofs]
  exact ⟨_, rfl⟩
theorem bag_ok (ns : List Int) (hn : ns.length ≤ 63) : ∃ c0 c1 S, d__law_bag [.scr ns] [] = .ok (.ref 3) S ∧ S.length = 4 ∧ Bag 3 2 S ∧ (∃ c2 c3, S = [c0, c1, c2, c3]) := by
  obtain ⟨ms, em, hm⟩ := cut_ints ns none (some 63)
  have h0 : ([Cell.lst (ms.map U.int)] : Sto)[0]? = some (.lst (ms.map U.int)) := rfl
  obtain ⟨seed, c', q1⟩ := bg_for (j := 0) (ms := ms) (S := [Cell.lst (ms.map U.int)]) (a := some (.scr ns)) (d := none) (e := none) h0 ms.length 0 (37 + (ns.length : Int)) none (by omega)
  have q1' : cFor (.nm 2) bBG [some (.scr ns), some (.int (37 + (ns.length : Int))), none, none, none] (.cel 0) [Cell.lst (ms.map U.int)] = .nx [some (.scr ns), some (.int seed), c', none, none] [Cell.lst (ms.map U.int)] := by
    rw [for_run (us := ms.map U.int) rfl, List.length_map]
    exact q1
  have h1 : ([Cell.lst (ms.map U.int), Cell.lst (ms.map U.int)] : Sto)[1]? = some (.lst (ms.map U.int)) := rfl
  obtain ⟨gs, q2⟩ := bg_lc (j := 1) (ms := ms) (S := [Cell.lst (ms.map U.int), Cell.lst (ms.map U.int)]) (e := [some (.scr ns), some (.int seed), c', none, none]) (tt := (asB (mOp fGe (mB fAbs (mCons (mB fInt (mCons (mVar 2) mNil)) mNil)) (mOp fPow (mK (.int 10)) (mK (.int 18)))))) (te := (mB fAbs (mCons (mB fInt (mCons (mVar 2) mNil)) mNil))) rfl (by omega) h1 (fun x => by
    have ep : ∀ S : Sto, fPow (.int 10) (.int 18) S = some (.int 1000000000000000000, S) := fun S => rfl
    refine ⟨decide ((1000000000000000000 : Int) ≤ (if x < 0 then -x else x)), (if x < 0 then -x else x), ?_, ?_⟩
    · simp only [OD.ev_bind, OD.ev_bindx, OD.ev_st, OD.ev_stx, OD.ev_nox, OD.ev_seq, OD.ev_seqr, OD.ev_seqx, OD.ev_lift, OD.ev_var, OD.ev_var1, OD.ev_k, OD.ev_op, OD.ev_op1, OD.ev_op2, OD.ev_un, OD.ev_un1, OD.ev_nil, OD.ev_cons, OD.ev_cons1, OD.ev_cons2, OD.ev_tup, OD.ev_tup1, OD.ev_lst, OD.ev_lst1, OD.ev_b, OD.ev_bl, OD.ev_b1, OD.ev_new, OD.ev_new1, OD.ev_m, OD.ev_m1, OD.ev_m2, OD.ev_and, OD.ev_andt, OD.ev_andf, OD.ev_or, OD.ev_ort, OD.ev_orf, OD.ev_not, OD.ev_not1, OD.ev_if, OD.ev_ift, OD.ev_iff, OD.ev_asb, OD.ev_asb1, OD.ev_tand, OD.ev_tandt, OD.ev_tandf, OD.ev_tor, OD.ev_tort, OD.ev_torf, OD.ev_tnot, OD.ev_tnot1, OD.ev_tru, OD.ev_tru1, OD.ev_o, OD.ev_is, OD.ev_is1, OD.ev_is2, OD.ev_ch, OD.ev_ch1, OD.ev_ch2, OD.ev_ch3t, OD.ev_ch3f, OD.ev_ch4, OD.ev_sl, OD.ev_sl1, OD.ev_sl2, OD.ev_sl3, OD.ev_on, OD.ev_os, OD.ev_os1, OD.ev_call, OD.ev_call1, OD.ev_asg, OD.ev_asg1, OD.ev_asgt, OD.ev_x, OD.ev_x1, OD.ev_r, OD.ev_r1, OD.ev_rn, OD.ev_skip, OD.ev_mseq, OD.ev_cont, OD.ev_break, OD.ev_ifs, OD.ev_ifst, OD.ev_ifsf, OD.ev_si, OD.ev_si1, OD.ev_si2, OD.ev_si3, OD.ev_si4, OD.ev_aug, OD.ev_aug0, OD.ev_aug1, OD.ev_aug2, OD.ev_fn, OD.ev_fnn, OD.ev_fnr, OD.ev_fnx, OD.ix_tup, OD.ix_lst, OD.ix_str, OD.at0, OD.at1, OD.at2, OD.at3, OD.len_tup, OD.len_scr, OD.len_lst, OD.int_int, OD.add_int, OD.add_tup, OD.sub_int, OD.eq_int, OD.eq_bl, OD.eq_str, OD.lt_int, OD.le_int, OD.gt_int, OD.ge_int, OD.mod_int, OD.div_int, OD.mul_int, OD.ev_wh, OD.ev_whf, OD.ev_wht, OD.ev_wen, OD.ev_wer, OD.ev_mst, OD.ev_mst1, OD.ev_msl, OD.ev_msl1, OD.ev_msl2, OD.ev_mscr, OD.ev_ent, OD.ev_ent1, OD.ev_zip, OD.ev_zip1, OD.ev_zip2, OD.ev_rg, OD.ev_lc, OD.ev_for, OD.ev_ext, OD.ev_ext1, List.getElem?_cons_zero, List.getElem?_cons_succ, List.set_cons_zero, List.set_cons_succ, List.replicate_succ, List.replicate_zero, List.map_cons, List.map_nil, List.length_cons, List.length_nil, List.cons_append, List.nil_append, List.append_nil, Nat.zero_add, Nat.reduceAdd, Nat.reduceSub, Nat.sub_self, abs_int, ep]
    · simp only [OD.ev_bind, OD.ev_bindx, OD.ev_st, OD.ev_stx, OD.ev_nox, OD.ev_seq, OD.ev_seqr, OD.ev_seqx, OD.ev_lift, OD.ev_var, OD.ev_var1, OD.ev_k, OD.ev_op, OD.ev_op1, OD.ev_op2, OD.ev_un, OD.ev_un1, OD.ev_nil, OD.ev_cons, OD.ev_cons1, OD.ev_cons2, OD.ev_tup, OD.ev_tup1, OD.ev_lst, OD.ev_lst1, OD.ev_b, OD.ev_bl, OD.ev_b1, OD.ev_new, OD.ev_new1, OD.ev_m, OD.ev_m1, OD.ev_m2, OD.ev_and, OD.ev_andt, OD.ev_andf, OD.ev_or, OD.ev_ort, OD.ev_orf, OD.ev_not, OD.ev_not1, OD.ev_if, OD.ev_ift, OD.ev_iff, OD.ev_asb, OD.ev_asb1, OD.ev_tand, OD.ev_tandt, OD.ev_tandf, OD.ev_tor, OD.ev_tort, OD.ev_torf, OD.ev_tnot, OD.ev_tnot1, OD.ev_tru, OD.ev_tru1, OD.ev_o, OD.ev_is, OD.ev_is1, OD.ev_is2, OD.ev_ch, OD.ev_ch1, OD.ev_ch2, OD.ev_ch3t, OD.ev_ch3f, OD.ev_ch4, OD.ev_sl, OD.ev_sl1, OD.ev_sl2, OD.ev_sl3, OD.ev_on, OD.ev_os, OD.ev_os1, OD.ev_call, OD.ev_call1, OD.ev_asg, OD.ev_asg1, OD.ev_asgt, OD.ev_x, OD.ev_x1, OD.ev_r, OD.ev_r1, OD.ev_rn, OD.ev_skip, OD.ev_mseq, OD.ev_cont, OD.ev_break, OD.ev_ifs, OD.ev_ifst, OD.ev_ifsf, OD.ev_si, OD.ev_si1, OD.ev_si2, OD.ev_si3, OD.ev_si4, OD.ev_aug, OD.ev_aug0, OD.ev_aug1, OD.ev_aug2, OD.ev_fn, OD.ev_fnn, OD.ev_fnr, OD.ev_fnx, OD.ix_tup, OD.ix_lst, OD.ix_str, OD.at0, OD.at1, OD.at2, OD.at3, OD.len_tup, OD.len_scr, OD.len_lst, OD.int_int, OD.add_int, OD.add_tup, OD.sub_int, OD.eq_int, OD.eq_bl, OD.eq_str, OD.lt_int, OD.le_int, OD.gt_int, OD.ge_int, OD.mod_int, OD.div_int, OD.mul_int, OD.ev_wh, OD.ev_whf, OD.ev_wht, OD.ev_wen, OD.ev_wer, OD.ev_mst, OD.ev_mst1, OD.ev_msl, OD.ev_msl1, OD.ev_msl2, OD.ev_mscr, OD.ev_ent, OD.ev_ent1, OD.ev_zip, OD.ev_zip1, OD.ev_zip2, OD.ev_rg, OD.ev_lc, OD.ev_for, OD.ev_ext, OD.ev_ext1, List.getElem?_cons_zero, List.getElem?_cons_succ, List.set_cons_zero, List.set_cons_succ, List.replicate_succ, List.replicate_zero, List.map_cons, List.map_nil, List.length_cons, List.length_nil, List.cons_append, List.nil_append, List.append_nil, Nat.zero_add, Nat.reduceAdd, Nat.reduceSub, Nat.sub_self, abs_int]) ms.length 0 [] (by omega) (Nat.le_refl _)
  have q2' : cLc (.nm 2) [2] (asB (mOp fGe (mB fAbs (mCons (mB fInt (mCons (mVar 2) mNil)) mNil)) (mOp fPow (mK (.int 10)) (mK (.int 18))))) (mB fAbs (mCons (mB fInt (mCons (mVar 2) mNil)) mNil)) [some (.scr ns), some (.int seed), c', none, none] (.cel 1) [Cell.lst (ms.map U.int), Cell.lst (ms.map U.int)] = .ok (gs.map U.int) [Cell.lst (ms.map U.int), Cell.lst (ms.map U.int)] := by
    rw [lc_run (us := ms.map U.int) rfl, List.length_map]
    exact q2
  have esl : fSl (.scr ns) none (some 63) [] = some (.ref 0, [Cell.lst (ms.map U.int)]) := by
    show some (U.ref 0, [] ++ [Cell.lst (cutU (ns.map U.int) none (some 63))]) = _
    rw [em]
    rfl
  have esl2 : fSl (.scr ns) none (some 63) [Cell.lst (ms.map U.int)] = some (.ref 1, [Cell.lst (ms.map U.int), Cell.lst (ms.map U.int)]) := by
    show some (U.ref 1, [Cell.lst (ms.map U.int)] ++ [Cell.lst (cutU (ns.map U.int) none (some 63))]) = _
    rw [em]
    rfl
  have l4 : ∀ a b c d : U, ([a, b, c, d] : List U).length ≤ sizeLine := fun a b c d => by rw [size_is]; simp
  have li := lc_ints (e := [some (.scr ns), some (.int seed), c', some (.ref 2), some .non]) (S := [Cell.lst (ms.map U.int), Cell.lst (ms.map U.int), Cell.lst (gs.map U.int)]) rfl ns (by omega)
  obtain ⟨t, hs⟩ := sum_ok (S := [Cell.lst (ms.map U.int), Cell.lst (ms.map U.int), Cell.lst (gs.map U.int)]) ns
  have lg : ([Cell.lst (ms.map U.int), Cell.lst (ms.map U.int), Cell.lst (gs.map U.int)] : Sto)[2]? = some (.lst (gs.map U.int)) := rfl
  have mk : ∀ al : U, (al = .non ∨ ∃ i, al = .int i) → Bag 3 2 [Cell.lst (ms.map U.int), Cell.lst (ms.map U.int), Cell.lst (gs.map U.int), Cell.lst [.int seed, .int 1, .ref 2, al]] := fun al h => ⟨by decide, ⟨seed, 1, al, rfl, h⟩, gs, rfl⟩
  have g1 : ([Cell.lst (ms.map U.int)] : Sto)[0]? = some (.lst (ms.map U.int)) := rfl
  cases hA : decide ((ns.length : Int) < 2) with
  | false =>
    refine ⟨_, _, [Cell.lst (ms.map U.int), Cell.lst (ms.map U.int), Cell.lst (gs.map U.int), Cell.lst [.int seed, .int 1, .ref 2, .non]], ?_, rfl, mk _ (.inl rfl), _, _, rfl⟩
    unfold d__law_bag b__law_bag
    simp only [OD.ev_bind, OD.ev_bindx, OD.ev_st, OD.ev_stx, OD.ev_nox, OD.ev_seq, OD.ev_seqr, OD.ev_seqx, OD.ev_lift, OD.ev_var, OD.ev_var1, OD.ev_k, OD.ev_op, OD.ev_op1, OD.ev_op2, OD.ev_un, OD.ev_un1, OD.ev_nil, OD.ev_cons, OD.ev_cons1, OD.ev_cons2, OD.ev_tup, OD.ev_tup1, OD.ev_lst, OD.ev_lst1, OD.ev_b, OD.ev_bl, OD.ev_b1, OD.ev_new, OD.ev_new1, OD.ev_m, OD.ev_m1, OD.ev_m2, OD.ev_and, OD.ev_andt, OD.ev_andf, OD.ev_or, OD.ev_ort, OD.ev_orf, OD.ev_not, OD.ev_not1, OD.ev_if, OD.ev_ift, OD.ev_iff, OD.ev_asb, OD.ev_asb1, OD.ev_tand, OD.ev_tandt, OD.ev_tandf, OD.ev_tor, OD.ev_tort, OD.ev_torf, OD.ev_tnot, OD.ev_tnot1, OD.ev_tru, OD.ev_tru1, OD.ev_o, OD.ev_is, OD.ev_is1, OD.ev_is2, OD.ev_ch, OD.ev_ch1, OD.ev_ch2, OD.ev_ch3t, OD.ev_ch3f, OD.ev_ch4, OD.ev_sl, OD.ev_sl1, OD.ev_sl2, OD.ev_sl3, OD.ev_on, OD.ev_os, OD.ev_os1, OD.ev_call, OD.ev_call1, OD.ev_asg, OD.ev_asg1, OD.ev_asgt, OD.ev_x, OD.ev_x1, OD.ev_r, OD.ev_r1, OD.ev_rn, OD.ev_skip, OD.ev_mseq, OD.ev_cont, OD.ev_break, OD.ev_ifs, OD.ev_ifst, OD.ev_ifsf, OD.ev_si, OD.ev_si1, OD.ev_si2, OD.ev_si3, OD.ev_si4, OD.ev_aug, OD.ev_aug0, OD.ev_aug1, OD.ev_aug2, OD.ev_fn, OD.ev_fnn, OD.ev_fnr, OD.ev_fnx, OD.ix_tup, OD.ix_lst, OD.ix_str, OD.at0, OD.at1, OD.at2, OD.at3, OD.len_tup, OD.len_scr, OD.len_lst, OD.int_int, OD.add_int, OD.add_tup, OD.sub_int, OD.eq_int, OD.eq_bl, OD.eq_str, OD.lt_int, OD.le_int, OD.gt_int, OD.ge_int, OD.mod_int, OD.div_int, OD.mul_int, OD.ev_wh, OD.ev_whf, OD.ev_wht, OD.ev_wen, OD.ev_wer, OD.ev_mst, OD.ev_mst1, OD.ev_msl, OD.ev_msl1, OD.ev_msl2, OD.ev_mscr, OD.ev_ent, OD.ev_ent1, OD.ev_zip, OD.ev_zip1, OD.ev_zip2, OD.ev_rg, OD.ev_lc, OD.ev_for, OD.ev_ext, OD.ev_ext1, List.getElem?_cons_zero, List.getElem?_cons_succ, List.set_cons_zero, List.set_cons_succ, List.replicate_succ, List.replicate_zero, List.map_cons, List.map_nil, List.length_cons, List.length_nil, List.cons_append, List.nil_append, List.append_nil, Nat.zero_add, Nat.reduceAdd, Nat.reduceSub, Nat.sub_self, len_scr, esl, g1, q1', esl2, h1, q2', hA, ev_lst1 (l4 _ _ _ _)]
  | true =>
    cases hB : (((gs.length : Nat) : Int) == 0) with
    | false =>
      refine ⟨_, _, [Cell.lst (ms.map U.int), Cell.lst (ms.map U.int), Cell.lst (gs.map U.int), Cell.lst [.int seed, .int 1, .ref 2, .non]], ?_, rfl, mk _ (.inl rfl), _, _, rfl⟩
      unfold d__law_bag b__law_bag
      simp only [OD.ev_bind, OD.ev_bindx, OD.ev_st, OD.ev_stx, OD.ev_nox, OD.ev_seq, OD.ev_seqr, OD.ev_seqx, OD.ev_lift, OD.ev_var, OD.ev_var1, OD.ev_k, OD.ev_op, OD.ev_op1, OD.ev_op2, OD.ev_un, OD.ev_un1, OD.ev_nil, OD.ev_cons, OD.ev_cons1, OD.ev_cons2, OD.ev_tup, OD.ev_tup1, OD.ev_lst, OD.ev_lst1, OD.ev_b, OD.ev_bl, OD.ev_b1, OD.ev_new, OD.ev_new1, OD.ev_m, OD.ev_m1, OD.ev_m2, OD.ev_and, OD.ev_andt, OD.ev_andf, OD.ev_or, OD.ev_ort, OD.ev_orf, OD.ev_not, OD.ev_not1, OD.ev_if, OD.ev_ift, OD.ev_iff, OD.ev_asb, OD.ev_asb1, OD.ev_tand, OD.ev_tandt, OD.ev_tandf, OD.ev_tor, OD.ev_tort, OD.ev_torf, OD.ev_tnot, OD.ev_tnot1, OD.ev_tru, OD.ev_tru1, OD.ev_o, OD.ev_is, OD.ev_is1, OD.ev_is2, OD.ev_ch, OD.ev_ch1, OD.ev_ch2, OD.ev_ch3t, OD.ev_ch3f, OD.ev_ch4, OD.ev_sl, OD.ev_sl1, OD.ev_sl2, OD.ev_sl3, OD.ev_on, OD.ev_os, OD.ev_os1, OD.ev_call, OD.ev_call1, OD.ev_asg, OD.ev_asg1, OD.ev_asgt, OD.ev_x, OD.ev_x1, OD.ev_r, OD.ev_r1, OD.ev_rn, OD.ev_skip, OD.ev_mseq, OD.ev_cont, OD.ev_break, OD.ev_ifs, OD.ev_ifst, OD.ev_ifsf, OD.ev_si, OD.ev_si1, OD.ev_si2, OD.ev_si3, OD.ev_si4, OD.ev_aug, OD.ev_aug0, OD.ev_aug1, OD.ev_aug2, OD.ev_fn, OD.ev_fnn, OD.ev_fnr, OD.ev_fnx, OD.ix_tup, OD.ix_lst, OD.ix_str, OD.at0, OD.at1, OD.at2, OD.at3, OD.len_tup, OD.len_scr, OD.len_lst, OD.int_int, OD.add_int, OD.add_tup, OD.sub_int, OD.eq_int, OD.eq_bl, OD.eq_str, OD.lt_int, OD.le_int, OD.gt_int, OD.ge_int, OD.mod_int, OD.div_int, OD.mul_int, OD.ev_wh, OD.ev_whf, OD.ev_wht, OD.ev_wen, OD.ev_wer, OD.ev_mst, OD.ev_mst1, OD.ev_msl, OD.ev_msl1, OD.ev_msl2, OD.ev_mscr, OD.ev_ent, OD.ev_ent1, OD.ev_zip, OD.ev_zip1, OD.ev_zip2, OD.ev_rg, OD.ev_lc, OD.ev_for, OD.ev_ext, OD.ev_ext1, List.getElem?_cons_zero, List.getElem?_cons_succ, List.set_cons_zero, List.set_cons_succ, List.replicate_succ, List.replicate_zero, List.map_cons, List.map_nil, List.length_cons, List.length_nil, List.cons_append, List.nil_append, List.append_nil, Nat.zero_add, Nat.reduceAdd, Nat.reduceSub, Nat.sub_self, len_scr, esl, g1, q1', esl2, h1, q2', hA, len_lst lg, List.length_map, hB, ev_lst1 (l4 _ _ _ _)]
    | true =>
      refine ⟨_, _, [Cell.lst (ms.map U.int), Cell.lst (ms.map U.int), Cell.lst (gs.map U.int), Cell.lst [.int seed, .int 1, .ref 2, .int (if t < 0 then -t else t)]], ?_, rfl, mk _ (.inr ⟨_, rfl⟩), _, _, rfl⟩
      unfold d__law_bag b__law_bag
      simp only [OD.ev_bind, OD.ev_bindx, OD.ev_st, OD.ev_stx, OD.ev_nox, OD.ev_seq, OD.ev_seqr, OD.ev_seqx, OD.ev_lift, OD.ev_var, OD.ev_var1, OD.ev_k, OD.ev_op, OD.ev_op1, OD.ev_op2, OD.ev_un, OD.ev_un1, OD.ev_nil, OD.ev_cons, OD.ev_cons1, OD.ev_cons2, OD.ev_tup, OD.ev_tup1, OD.ev_lst, OD.ev_lst1, OD.ev_b, OD.ev_bl, OD.ev_b1, OD.ev_new, OD.ev_new1, OD.ev_m, OD.ev_m1, OD.ev_m2, OD.ev_and, OD.ev_andt, OD.ev_andf, OD.ev_or, OD.ev_ort, OD.ev_orf, OD.ev_not, OD.ev_not1, OD.ev_if, OD.ev_ift, OD.ev_iff, OD.ev_asb, OD.ev_asb1, OD.ev_tand, OD.ev_tandt, OD.ev_tandf, OD.ev_tor, OD.ev_tort, OD.ev_torf, OD.ev_tnot, OD.ev_tnot1, OD.ev_tru, OD.ev_tru1, OD.ev_o, OD.ev_is, OD.ev_is1, OD.ev_is2, OD.ev_ch, OD.ev_ch1, OD.ev_ch2, OD.ev_ch3t, OD.ev_ch3f, OD.ev_ch4, OD.ev_sl, OD.ev_sl1, OD.ev_sl2, OD.ev_sl3, OD.ev_on, OD.ev_os, OD.ev_os1, OD.ev_call, OD.ev_call1, OD.ev_asg, OD.ev_asg1, OD.ev_asgt, OD.ev_x, OD.ev_x1, OD.ev_r, OD.ev_r1, OD.ev_rn, OD.ev_skip, OD.ev_mseq, OD.ev_cont, OD.ev_break, OD.ev_ifs, OD.ev_ifst, OD.ev_ifsf, OD.ev_si, OD.ev_si1, OD.ev_si2, OD.ev_si3, OD.ev_si4, OD.ev_aug, OD.ev_aug0, OD.ev_aug1, OD.ev_aug2, OD.ev_fn, OD.ev_fnn, OD.ev_fnr, OD.ev_fnx, OD.ix_tup, OD.ix_lst, OD.ix_str, OD.at0, OD.at1, OD.at2, OD.at3, OD.len_tup, OD.len_scr, OD.len_lst, OD.int_int, OD.add_int, OD.add_tup, OD.sub_int, OD.eq_int, OD.eq_bl, OD.eq_str, OD.lt_int, OD.le_int, OD.gt_int, OD.ge_int, OD.mod_int, OD.div_int, OD.mul_int, OD.ev_wh, OD.ev_whf, OD.ev_wht, OD.ev_wen, OD.ev_wer, OD.ev_mst, OD.ev_mst1, OD.ev_msl, OD.ev_msl1, OD.ev_msl2, OD.ev_mscr, OD.ev_ent, OD.ev_ent1, OD.ev_zip, OD.ev_zip1, OD.ev_zip2, OD.ev_rg, OD.ev_lc, OD.ev_for, OD.ev_ext, OD.ev_ext1, List.getElem?_cons_zero, List.getElem?_cons_succ, List.set_cons_zero, List.set_cons_succ, List.replicate_succ, List.replicate_zero, List.map_cons, List.map_nil, List.length_cons, List.length_nil, List.cons_append, List.nil_append, List.append_nil, Nat.zero_add, Nat.reduceAdd, Nat.reduceSub, Nat.sub_self, len_scr, esl, g1, q1', esl2, h1, q2', hA, len_lst lg, List.length_map, hB, li, hs, abs_int, ev_lst1 (l4 _ _ _ _)]
def stoR : Rs U → Sto
  | .ok _ S => S
  | _ => []
def okNon : Rs U → Bool
  | .ok .non _ => true
  | _ => false
def insB : Option Cell → Bool
  | some (.ins 44 _) => true
  | _ => false
theorem okNon_eq {r : Rs U} (h : okNon r = true) : r = .ok .non (stoR r) := by
  cases r with
  | ok u S => cases u <;> first | rfl | cases h
  | ex c f S => cases h
  | bad => cases h
theorem prog_run (c0 c1 c2 c3 : Cell) : okNon (d_Program___init__ [.ref 4, .tup [.tup [.tup [], .tup []]]] [c0, c1, c2, c3, .ins 44 []]) = true := by kernel_rfl
theorem prog_sto (c0 c1 c2 c3 : Cell) : (stoR (d_Program___init__ [.ref 4, .tup [.tup [.tup [], .tup []]]] [c0, c1, c2, c3, .ins 44 []])).take 4 = [c0, c1, c2, c3] := by kernel_rfl
theorem prog_ins (c0 c1 c2 c3 : Cell) : insB (stoR (d_Program___init__ [.ref 4, .tup [.tup [.tup [], .tup []]]] [c0, c1, c2, c3, .ins 44 []]))[4]? = true := by kernel_rfl
end K01
end

section
set_option Elab.async false
set_option linter.all false
set_option autoImplicit false
set_option maxRecDepth 100000
set_option maxHeartbeats 4000000
/-! the plain law of k01: one turn -/
namespace K01
open PySem L2 OD
abbrev bT0 : SM := (mAsg (.nm 4) (mCall 2 (d__law_grown 10) (mCons (mVar 1) (mCons (mOp fAdd (mK (.int 1)) (mCall 2 d__law_pick (mCons (mVar 1) (mCons (mK (.int 7)) mNil)))) mNil))))
abbrev bT1 : SM := (mAsg (.nm 5) (mLst (mCons (mK .non) (mCons (mK (.bl true)) (mCons (mK (.bl false)) (mCons (mK (.int 2)) (mCons (mUn fNeg (mK (.int 1))) (mCons (mK (.str [43])) (mCons (mTup mNil) (mCons (mLst mNil) (mCons mDNew (mCons (mTup (mCons (mK (.int 0)) mNil)) (mCons (mTup (mCons (mK (.int 0)) (mCons (mTup mNil) mNil))) (mCons (mTup (mCons (mK (.int 1)) (mCons (mTup mNil) mNil))) (mCons (mLst (mCons (mK (.int 0)) (mCons (mTup mNil) mNil))) (mCons (mTup (mCons (mK (.int 0)) (mCons (mLst mNil) mNil))) (mCons (mTup (mCons (mK (.bl true)) (mCons (mTup mNil) mNil))) (mCons (mTup (mCons (mK (.int 0)) (mCons (mK .non) mNil))) mNil))))))))))))))))))
abbrev bT2 : SM := (mAsg (.nm 5) (mOp fAdd (mVar 5) (mLst (mCons (mTup (mCons (mK (.int 2)) (mCons (mTup mNil) mNil))) (mCons (mTup (mCons (mK (.int 0)) (mCons (mTup mNil) (mCons (mTup mNil) mNil)))) (mCons (mTup (mCons (mTup (mCons (mK (.int 0)) (mCons (mTup mNil) mNil))) mNil)) (mCons (mTup (mCons (mK (.int 0)) (mCons (mOp fMulT (mTup (mCons (mTup (mCons (mK (.int 0)) (mCons (mTup mNil) mNil))) mNil)) (mK (.int 4))) mNil))) (mCons (mVar 2) (mCons (mCall 0 d__law_deep mNil) (mCons (mOp fPow (mK (.int 10)) (mK (.int 29))) (mCons (mK (.int 0)) (mCons (mK (.int 1)) mNil))))))))))))
abbrev bT3 : SM := (mFor (msR1 (mCons (mCall 2 d__law_pick (mCons (mVar 1) (mCons (mK (.int 3)) mNil))) mNil)) (.nm 6) (mAsg (.nm 4) (mCall 4 (d__law_changed 10) (mCons (mVar 1) (mCons (mVar 4) (mCons (mCall 2 d__law_some (mCons (mVar 1) (mCons (mVar 5) mNil))) (mCons (mK (.int 8)) mNil)))))))
abbrev bT4 : SM := (mAsg (.nm 7) (mCall 1 d__law_is_kind (mCons (mVar 4) mNil)))
abbrev bT5 : SM := (mIfS (tmNot (mTru (mCall 2 (d__law_is 24) (mCons (mCall 1 d_is_kind (mCons (mVar 4) mNil)) (mCons (mVar 7) mNil))))) (mRet (mK (.bl false))) mSkip)
abbrev bT6 : SM := (mIfS (tmNot (mTru (mVar 7))) (mIfS (mTru (mBL fAny (mLc (msL (mLst (mCons (mK (.fn 32)) (mCons (mK (.fn 36)) (mCons (mK (.fn 34)) mNil))))) (.nm 9) [9] mYes (mOp fNe (mCall 2 d__law_told (mCons (mVar 9) (mCons (mVar 4) mNil))) (mTup (mCons (mK (.str [107, 105, 110, 100])) (mCons (mK .non) mNil))))))) (mRet (mK (.bl false))) mSkip) (mSeq (mAsg (.nm 8) (mCall 1 d_knots (mCons (mVar 4) mNil)))
  (mSeq (mIfS (tmOr (tmNot (mTru (mCall 2 (d__law_is 24) (mCons (mCall 1 d_counter (mCons (mVar 4) mNil)) (mCons (mTup (mCons (mOp fSub (mK (.int 1)) (mOp fIx (mVar 4) (mK (.int 0)))) (mCons (mOp fIx (mVar 4) (mK (.int 1))) mNil))) mNil))))) (asB (mOp fNe (mCall 1 d_counter (mCons (mCall 1 d_counter (mCons (mVar 4) mNil)) mNil)) (mVar 4)))) (mRet (mK (.bl false))) mSkip)
  (mSeq (mIfS (tmOr (tmNot (mTru (mCall 2 (d__law_is 24) (mCons (mVar 8) (mCons (mCall 1 (d__law_knots 10) (mCons (mVar 4) mNil)) mNil))))) (asB (mOp fNe (mCall 1 d_kind_text (mCons (mVar 4) mNil)) (mCall 1 (d__law_kind_word 10) (mCons (mVar 4) mNil))))) (mRet (mK (.bl false))) mSkip)
  (mSeq (mExpr (mM 0 fAppend (mVar 8) (mCons (mTup mNil) mNil)))
  (mIfS (asB (mOp fEq (mCall 1 d_knots (mCons (mVar 4) mNil)) (mVar 8))) (mRet (mK (.bl false))) mSkip))))))
abbrev bTN : SM := (mSeq bT0 (mSeq bT1 (mSeq bT2 (mSeq bT3 (mSeq bT4 (mSeq bT5 bT6))))))
mutual
def gdB : U → Bool
  | .non => true
  | .bl _ => true
  | .int _ => true
  | .str _ => true
  | .tup xs => decide (xs.length ≤ 30) && gdBs xs
  | .ref _ => false
  | .fn _ => false
  | .lam _ _ => false
  | .scr _ => false
def gdBs : List U → Bool
  | [] => true
  | x :: xs => gdB x && gdBs xs
end
mutual
theorem gd_of' {S : Sto} : ∀ (u : U), gdB u = true → Gd 30 S u
  | .non => fun _ => .non
  | .bl b => fun _ => .bl b
  | .int i => fun _ => .int i
  | .str s => fun _ => .str s
  | .tup xs => fun h => by
    simp only [gdB, Bool.and_eq_true, decide_eq_true_eq] at h
    exact .tup h.1 (gds_of' xs h.2)
  | .ref _ => fun h => by simp only [gdB] at h; cases h
  | .fn _ => fun h => by simp only [gdB] at h; cases h
  | .lam _ _ => fun h => by simp only [gdB] at h; cases h
  | .scr _ => fun h => by simp only [gdB] at h; cases h
theorem gds_of' {S : Sto} : ∀ (xs : List U), gdBs xs = true → ∀ x, x ∈ xs → Gd 30 S x
  | [] => fun _ x hx => by cases hx
  | y :: ys => fun h => by
    simp only [gdBs, Bool.and_eq_true] at h
    have h1 := gd_of' (S := S) y h.1
    have h2 := gds_of' (S := S) ys h.2
    intro x hx
    rcases List.mem_cons.mp hx with e | hx
    · rw [e]; exact h1
    · exact h2 x hx
end
theorem gd_of {S : Sto} {u : U} (h : gdB u = true) : Gd 30 S u := gd_of' u h
theorem neg_int {S : Sto} {i : Int} : fNeg (.int i) S = some (.int (-i), S) := rfl
theorem dnew_ev {e : OD.Env} {S : Sto} : mDNew e S = .ok (.ref S.length) (S ++ [.dic []]) := rfl
def deepU : Nat → U
  | 0 => .tup []
  | n + 1 => .tup [deepU n]
theorem deep_ok (S : Sto) : d__law_deep [] S = .ok (deepU 24) S := by kernel_rfl
theorem gd_deep : gdB (deepU 24) = true := by decide +kernel
abbrev A1 (S : Sto) : Sto := S ++ [Cell.lst []]
abbrev A2 (S : Sto) : Sto := A1 S ++ [Cell.dic []]
abbrev A3 (S : Sto) : Sto := A2 S ++ [Cell.lst [.int 0, .tup []]]
abbrev A4 (S : Sto) : Sto := A3 S ++ [Cell.lst []]
abbrev os1 (S : Sto) : List U := [.non, .bl true, .bl false, .int 2, .int (-1), .str [43], .tup [], .ref S.length, .ref (A1 S).length, .tup [.int 0], .tup [.int 0, .tup []], .tup [.int 1, .tup []], .ref (A2 S).length, .tup [.int 0, .ref (A3 S).length], .tup [.bl true, .tup []], .tup [.int 0, .non]]
theorem zl0 : ([] : List U).length ≤ sizeLine := by rw [size_is]; simp
theorem zl1 {a : U} : ([a] : List U).length ≤ sizeLine := by rw [size_is]; simp
theorem zl2 {a b : U} : ([a, b] : List U).length ≤ sizeLine := by rw [size_is]; simp
theorem zl3 {a b c : U} : ([a, b, c] : List U).length ≤ sizeLine := by rw [size_is]; simp
theorem zl9 {a b c d e f g h i : U} : ([a, b, c, d, e, f, g, h, i] : List U).length ≤ sizeLine := by rw [size_is]; simp
theorem zl16 {a b c d e f g h i j k l m n o p : U} : ([a, b, c, d, e, f, g, h, i, j, k, l, m, n, o, p] : List U).length ≤ sizeLine := by rw [size_is]; simp
theorem odd1_ok (e : OD.Env) (S : Sto) : bT1 e S = .nx (e.set 5 (some (.ref (A4 S).length))) (A4 S ++ [Cell.lst (os1 S)]) := by
  simp only [OD.ev_bind, OD.ev_bindx, OD.ev_st, OD.ev_stx, OD.ev_nox, OD.ev_seq, OD.ev_seqr, OD.ev_seqx, OD.ev_lift, OD.ev_var, OD.ev_var1, OD.ev_k, OD.ev_op, OD.ev_op1, OD.ev_op2, OD.ev_un, OD.ev_un1, OD.ev_nil, OD.ev_cons, OD.ev_cons1, OD.ev_cons2, OD.ev_tup, OD.ev_tup1, OD.ev_lst, OD.ev_lst1, OD.ev_b, OD.ev_bl, OD.ev_b1, OD.ev_new, OD.ev_new1, OD.ev_m, OD.ev_m1, OD.ev_m2, OD.ev_and, OD.ev_andt, OD.ev_andf, OD.ev_or, OD.ev_ort, OD.ev_orf, OD.ev_not, OD.ev_not1, OD.ev_if, OD.ev_ift, OD.ev_iff, OD.ev_asb, OD.ev_asb1, OD.ev_tand, OD.ev_tandt, OD.ev_tandf, OD.ev_tor, OD.ev_tort, OD.ev_torf, OD.ev_tnot, OD.ev_tnot1, OD.ev_tru, OD.ev_tru1, OD.ev_o, OD.ev_is, OD.ev_is1, OD.ev_is2, OD.ev_ch, OD.ev_ch1, OD.ev_ch2, OD.ev_ch3t, OD.ev_ch3f, OD.ev_ch4, OD.ev_sl, OD.ev_sl1, OD.ev_sl2, OD.ev_sl3, OD.ev_on, OD.ev_os, OD.ev_os1, OD.ev_call, OD.ev_call1, OD.ev_asg, OD.ev_asg1, OD.ev_asgt, OD.ev_x, OD.ev_x1, OD.ev_r, OD.ev_r1, OD.ev_rn, OD.ev_skip, OD.ev_mseq, OD.ev_cont, OD.ev_break, OD.ev_ifs, OD.ev_ifst, OD.ev_ifsf, OD.ev_si, OD.ev_si1, OD.ev_si2, OD.ev_si3, OD.ev_si4, OD.ev_aug, OD.ev_aug0, OD.ev_aug1, OD.ev_aug2, OD.ev_fn, OD.ev_fnn, OD.ev_fnr, OD.ev_fnx, OD.ix_tup, OD.ix_lst, OD.ix_str, OD.at0, OD.at1, OD.at2, OD.at3, OD.len_tup, OD.len_scr, OD.len_lst, OD.int_int, OD.add_int, OD.add_tup, OD.sub_int, OD.eq_int, OD.eq_bl, OD.eq_str, OD.lt_int, OD.le_int, OD.gt_int, OD.ge_int, OD.mod_int, OD.div_int, OD.mul_int, OD.ev_wh, OD.ev_whf, OD.ev_wht, OD.ev_wen, OD.ev_wer, OD.ev_mst, OD.ev_mst1, OD.ev_msl, OD.ev_msl1, OD.ev_msl2, OD.ev_mscr, OD.ev_ent, OD.ev_ent1, OD.ev_zip, OD.ev_zip1, OD.ev_zip2, OD.ev_rg, OD.ev_lc, OD.ev_for, OD.ev_ext, OD.ev_ext1, List.getElem?_cons_zero, List.getElem?_cons_succ, List.set_cons_zero, List.set_cons_succ, List.replicate_succ, List.replicate_zero, List.map_cons, List.map_nil, List.length_cons, List.length_nil, List.cons_append, List.nil_append, List.append_nil, Nat.zero_add, Nat.reduceAdd, Nat.reduceSub, Nat.sub_self, neg_int, dnew_ev, ev_tup1 zl0, ev_tup1 zl1, ev_tup1 zl2, ev_lst1 zl0, ev_lst1 zl2, ev_lst1 zl16]
theorem odd1_gd (S : Sto) : ∀ x, x ∈ os1 S → Gd 30 (A4 S ++ [Cell.lst (os1 S)]) x := by
  have g0 : (A4 S ++ [Cell.lst (os1 S)])[S.length]? = some (.lst []) := get_app (get_app (get_app (get_app last_get)))
  have g1 : (A4 S ++ [Cell.lst (os1 S)])[(A1 S).length]? = some (.dic []) := get_app (get_app (get_app last_get))
  have g2 : (A4 S ++ [Cell.lst (os1 S)])[(A2 S).length]? = some (.lst [.int 0, .tup []]) := get_app (get_app last_get)
  have g3 : (A4 S ++ [Cell.lst (os1 S)])[(A3 S).length]? = some (.lst []) := get_app last_get
  intro x hx
  rcases List.mem_cons.mp hx with rfl | hx; · exact .non
  rcases List.mem_cons.mp hx with rfl | hx; · exact .bl _
  rcases List.mem_cons.mp hx with rfl | hx; · exact .bl _
  rcases List.mem_cons.mp hx with rfl | hx; · exact .int _
  rcases List.mem_cons.mp hx with rfl | hx; · exact .int _
  rcases List.mem_cons.mp hx with rfl | hx; · exact .str _
  rcases List.mem_cons.mp hx with rfl | hx; · exact gd_of rfl
  rcases List.mem_cons.mp hx with rfl | hx; · exact .lst g0
  rcases List.mem_cons.mp hx with rfl | hx; · exact .dic g1
  rcases List.mem_cons.mp hx with rfl | hx; · exact gd_of rfl
  rcases List.mem_cons.mp hx with rfl | hx; · exact gd_of rfl
  rcases List.mem_cons.mp hx with rfl | hx; · exact gd_of rfl
  rcases List.mem_cons.mp hx with rfl | hx; · exact .lst g2
  rcases List.mem_cons.mp hx with rfl | hx
  · refine .tup (by simp) fun y hy => ?_
    rcases List.mem_cons.mp hy with rfl | hy; · exact .int _
    rw [List.mem_singleton.mp hy]
    exact .lst g3
  rcases List.mem_cons.mp hx with rfl | hx; · exact gd_of rfl
  rw [List.mem_singleton.mp hx]
  exact gd_of rfl
theorem add_lst {S : Sto} {i j : Nat} {xs ys : List U} (h1 : S[i]? = some (.lst xs)) (h2 : S[j]? = some (.lst ys)) (hz : xs.length + ys.length ≤ sizeLine) : fAdd (.ref i) (.ref j) S = some (.ref S.length, S ++ [.lst (xs ++ ys)]) := by
  unfold fAdd
  simp only [h1, h2, if_pos hz]
abbrev os2 : List U := [.tup [.int 2, .tup []], .tup [.int 0, .tup [], .tup []], .tup [.tup [.int 0, .tup []]], .tup [.int 0, .tup [.tup [.int 0, .tup []], .tup [.int 0, .tup []], .tup [.int 0, .tup []], .tup [.int 0, .tup []]]], .ref 4, deepU 24, .int 100000000000000000000000000000, .int 0, .int 1]
theorem odd2_ok {S : Sto} {j : Nat} {xs : List U} {a b c d f4 v6 v7 v8 v9 : Option U} (h : S[j]? = some (.lst xs)) (hx : xs.length ≤ 100) :
    bT2 [a, b, some (.ref 4), d, f4, some (.ref j), v6, v7, v8, v9] S = .nx [a, b, some (.ref 4), d, f4, some (.ref (S ++ [Cell.lst os2]).length), v6, v7, v8, v9] ((S ++ [Cell.lst os2]) ++ [Cell.lst (xs ++ os2)]) := by
  have hm : ∀ S : Sto, fMulT (.tup [.tup [.int 0, .tup []]]) (.int 4) S = some (.tup [.tup [.int 0, .tup []], .tup [.int 0, .tup []], .tup [.int 0, .tup []], .tup [.int 0, .tup []]], S) := fun S => rfl
  have hp : ∀ S : Sto, fPow (.int 10) (.int 29) S = some (.int 100000000000000000000000000000, S) := fun S => rfl
  have ha : fAdd (.ref j) (.ref S.length) (S ++ [Cell.lst os2]) = some (.ref (S ++ [Cell.lst os2]).length, (S ++ [Cell.lst os2]) ++ [.lst (xs ++ os2)]) := add_lst (get_app h) last_get (by rw [size_is]; simp; omega)
  simp only [OD.ev_bind, OD.ev_bindx, OD.ev_st, OD.ev_stx, OD.ev_nox, OD.ev_seq, OD.ev_seqr, OD.ev_seqx, OD.ev_lift, OD.ev_var, OD.ev_var1, OD.ev_k, OD.ev_op, OD.ev_op1, OD.ev_op2, OD.ev_un, OD.ev_un1, OD.ev_nil, OD.ev_cons, OD.ev_cons1, OD.ev_cons2, OD.ev_tup, OD.ev_tup1, OD.ev_lst, OD.ev_lst1, OD.ev_b, OD.ev_bl, OD.ev_b1, OD.ev_new, OD.ev_new1, OD.ev_m, OD.ev_m1, OD.ev_m2, OD.ev_and, OD.ev_andt, OD.ev_andf, OD.ev_or, OD.ev_ort, OD.ev_orf, OD.ev_not, OD.ev_not1, OD.ev_if, OD.ev_ift, OD.ev_iff, OD.ev_asb, OD.ev_asb1, OD.ev_tand, OD.ev_tandt, OD.ev_tandf, OD.ev_tor, OD.ev_tort, OD.ev_torf, OD.ev_tnot, OD.ev_tnot1, OD.ev_tru, OD.ev_tru1, OD.ev_o, OD.ev_is, OD.ev_is1, OD.ev_is2, OD.ev_ch, OD.ev_ch1, OD.ev_ch2, OD.ev_ch3t, OD.ev_ch3f, OD.ev_ch4, OD.ev_sl, OD.ev_sl1, OD.ev_sl2, OD.ev_sl3, OD.ev_on, OD.ev_os, OD.ev_os1, OD.ev_call, OD.ev_call1, OD.ev_asg, OD.ev_asg1, OD.ev_asgt, OD.ev_x, OD.ev_x1, OD.ev_r, OD.ev_r1, OD.ev_rn, OD.ev_skip, OD.ev_mseq, OD.ev_cont, OD.ev_break, OD.ev_ifs, OD.ev_ifst, OD.ev_ifsf, OD.ev_si, OD.ev_si1, OD.ev_si2, OD.ev_si3, OD.ev_si4, OD.ev_aug, OD.ev_aug0, OD.ev_aug1, OD.ev_aug2, OD.ev_fn, OD.ev_fnn, OD.ev_fnr, OD.ev_fnx, OD.ix_tup, OD.ix_lst, OD.ix_str, OD.at0, OD.at1, OD.at2, OD.at3, OD.len_tup, OD.len_scr, OD.len_lst, OD.int_int, OD.add_int, OD.add_tup, OD.sub_int, OD.eq_int, OD.eq_bl, OD.eq_str, OD.lt_int, OD.le_int, OD.gt_int, OD.ge_int, OD.mod_int, OD.div_int, OD.mul_int, OD.ev_wh, OD.ev_whf, OD.ev_wht, OD.ev_wen, OD.ev_wer, OD.ev_mst, OD.ev_mst1, OD.ev_msl, OD.ev_msl1, OD.ev_msl2, OD.ev_mscr, OD.ev_ent, OD.ev_ent1, OD.ev_zip, OD.ev_zip1, OD.ev_zip2, OD.ev_rg, OD.ev_lc, OD.ev_for, OD.ev_ext, OD.ev_ext1, List.getElem?_cons_zero, List.getElem?_cons_succ, List.set_cons_zero, List.set_cons_succ, List.replicate_succ, List.replicate_zero, List.map_cons, List.map_nil, List.length_cons, List.length_nil, List.cons_append, List.nil_append, List.append_nil, Nat.zero_add, Nat.reduceAdd, Nat.reduceSub, Nat.sub_self, neg_int, dnew_ev, ev_tup1 zl0, ev_tup1 zl1, ev_tup1 zl2, ev_tup1 zl3, hm, hp, ev_call1 (us := []) (n := 0) rfl, deep_ok, ev_lst1 zl9, ha]
theorem odd2_gd {S : Sto} (h : insB S[4]? = true) : ∀ x, x ∈ os2 → Gd 30 S x := by
  obtain ⟨fs, h4⟩ : ∃ fs, S[4]? = some (.ins 44 fs) := by
    unfold insB at h
    split at h
    · rename_i fs e; exact ⟨fs, e⟩
    · cases h
  intro x hx
  rcases List.mem_cons.mp hx with rfl | hx; · exact gd_of rfl
  rcases List.mem_cons.mp hx with rfl | hx; · exact gd_of rfl
  rcases List.mem_cons.mp hx with rfl | hx; · exact gd_of rfl
  rcases List.mem_cons.mp hx with rfl | hx; · exact gd_of rfl
  rcases List.mem_cons.mp hx with rfl | hx; · exact .ins h4
  rcases List.mem_cons.mp hx with rfl | hx; · exact gd_of gd_deep
  rcases List.mem_cons.mp hx with rfl | hx; · exact .int _
  rcases List.mem_cons.mp hx with rfl | hx; · exact .int _
  rw [List.mem_singleton.mp hx]
  exact .int _
end K01
end

section
set_option Elab.async false
set_option linter.all false
set_option autoImplicit false
set_option maxRecDepth 100000
set_option maxHeartbeats 4000000
/-! the plain law of k01: the turn -/
namespace K01
open PySem L2 OD
theorem some_ok {b g j : Nat} {S : Sto} {os : List U} (B : Bag b g S) (hb : j ≠ b) (hg : j ≠ g) (h : S[j]? = some (.lst os)) (h0 : 0 < os.length) (h1 : os.length ≤ 1000) : ∃ x S', d__law_some [.ref b, .ref j] S = .ok x S' ∧ x ∈ os ∧ Wk b g S S' := by
  obtain ⟨d, S1, q1, a1, a2, w1⟩ := pick_wk (b := b) (g := g) (many := (os.length : Nat)) B (by omega) (by omega)
  obtain ⟨k, rfl⟩ : ∃ k : Nat, d = (k : Int) := ⟨d.toNat, by omega⟩
  have hk : k < os.length := by omega
  have hj : S1[j]? = some (.lst os) := by rw [w1.st.same j hb hg (List.getElem?_eq_some_iff.mp h).1]; exact h
  have hat : atI os (k : Int) = some os[k] := by
    unfold atI ixN
    rw [if_pos (by omega), if_pos (by omega)]
    simp [hk]
  refine ⟨os[k], S1, ?_, List.getElem_mem hk, w1⟩
  unfold d__law_some b__law_some
  simp only [OD.ev_bind, OD.ev_bindx, OD.ev_st, OD.ev_stx, OD.ev_nox, OD.ev_seq, OD.ev_seqr, OD.ev_seqx, OD.ev_lift, OD.ev_var, OD.ev_var1, OD.ev_k, OD.ev_op, OD.ev_op1, OD.ev_op2, OD.ev_un, OD.ev_un1, OD.ev_nil, OD.ev_cons, OD.ev_cons1, OD.ev_cons2, OD.ev_tup, OD.ev_tup1, OD.ev_lst, OD.ev_lst1, OD.ev_b, OD.ev_bl, OD.ev_b1, OD.ev_new, OD.ev_new1, OD.ev_m, OD.ev_m1, OD.ev_m2, OD.ev_and, OD.ev_andt, OD.ev_andf, OD.ev_or, OD.ev_ort, OD.ev_orf, OD.ev_not, OD.ev_not1, OD.ev_if, OD.ev_ift, OD.ev_iff, OD.ev_asb, OD.ev_asb1, OD.ev_tand, OD.ev_tandt, OD.ev_tandf, OD.ev_tor, OD.ev_tort, OD.ev_torf, OD.ev_tnot, OD.ev_tnot1, OD.ev_tru, OD.ev_tru1, OD.ev_o, OD.ev_is, OD.ev_is1, OD.ev_is2, OD.ev_ch, OD.ev_ch1, OD.ev_ch2, OD.ev_ch3t, OD.ev_ch3f, OD.ev_ch4, OD.ev_sl, OD.ev_sl1, OD.ev_sl2, OD.ev_sl3, OD.ev_on, OD.ev_os, OD.ev_os1, OD.ev_call, OD.ev_call1, OD.ev_asg, OD.ev_asg1, OD.ev_asgt, OD.ev_x, OD.ev_x1, OD.ev_r, OD.ev_r1, OD.ev_rn, OD.ev_skip, OD.ev_mseq, OD.ev_cont, OD.ev_break, OD.ev_ifs, OD.ev_ifst, OD.ev_ifsf, OD.ev_si, OD.ev_si1, OD.ev_si2, OD.ev_si3, OD.ev_si4, OD.ev_aug, OD.ev_aug0, OD.ev_aug1, OD.ev_aug2, OD.ev_fn, OD.ev_fnn, OD.ev_fnr, OD.ev_fnx, OD.ix_tup, OD.ix_lst, OD.ix_str, OD.at0, OD.at1, OD.at2, OD.at3, OD.len_tup, OD.len_scr, OD.len_lst, OD.int_int, OD.add_int, OD.add_tup, OD.sub_int, OD.eq_int, OD.eq_bl, OD.eq_str, OD.lt_int, OD.le_int, OD.gt_int, OD.ge_int, OD.mod_int, OD.div_int, OD.mul_int, OD.ev_wh, OD.ev_whf, OD.ev_wht, OD.ev_wen, OD.ev_wer, OD.ev_mst, OD.ev_mst1, OD.ev_msl, OD.ev_msl1, OD.ev_msl2, OD.ev_mscr, OD.ev_ent, OD.ev_ent1, OD.ev_zip, OD.ev_zip1, OD.ev_zip2, OD.ev_rg, OD.ev_lc, OD.ev_for, OD.ev_ext, OD.ev_ext1, List.getElem?_cons_zero, List.getElem?_cons_succ, List.set_cons_zero, List.set_cons_succ, List.replicate_succ, List.replicate_zero, List.map_cons, List.map_nil, List.length_cons, List.length_nil, List.cons_append, List.nil_append, List.append_nil, Nat.zero_add, Nat.reduceAdd, Nat.reduceSub, Nat.sub_self, len_lst h, ev_call1 (us := [U.ref b, U.int os.length]) (n := 2) rfl, q1, ix_lst hj hat]
abbrev bCH : SM := (mAsg (.nm 4) (mCall 4 (d__law_changed 10) (mCons (mVar 1) (mCons (mVar 4) (mCons (mCall 2 d__law_some (mCons (mVar 1) (mCons (mVar 5) mNil))) (mCons (mK (.int 8)) mNil))))))
theorem ch_for {b g j : Nat} {os : List U} {a c d v7 v8 v9 : Option U} (hb : j ≠ b) (hg : j ≠ g) (h0 : 0 < os.length) (h1 : os.length ≤ 1000) :
    ∀ (rest : List U) (L : Nat) (thing : U) (v6 : Option U) (S : Sto), Bag b g S → S[j]? = some (.lst os) → (∀ x, x ∈ os → Gd 30 S x) → Gd L S thing → 30 ≤ L → L + rest.length ≤ 1000 →
      ∃ thing' w6 S', forL (.nm 6) bCH rest [a, some (.ref b), c, d, some thing, some (.ref j), v6, v7, v8, v9] S = .nx [a, some (.ref b), c, d, some thing', some (.ref j), w6, v7, v8, v9] S' ∧ Gd 1000 S' thing' ∧ Wk b g S S'
  | [], L, thing, v6, S, B, h, go, gt, hL, hz => ⟨thing, v6, S, rfl, gt.more (by simpa using hz), ⟨B, .refl, .refl⟩⟩
  | r :: rest, L, thing, v6, S, B, h, go, gt, hL, hz => by
    rw [List.length_cons] at hz
    obtain ⟨x, S1, q1, hx, w1⟩ := some_ok B hb hg h h0 h1
    obtain ⟨u, S2, q2, gu, w2⟩ := changed_ok 10 L thing x 8 b g S1 w1.bag (gt.keep w1.keep) (((go x hx).keep w1.keep).more hL) (by decide) (by decide) (by omega)
    have w12 := w1.trans w2
    have hj : S2[j]? = some (.lst os) := by rw [w12.st.same j hb hg (List.getElem?_eq_some_iff.mp h).1]; exact h
    obtain ⟨t', w6, S', q3, gt', w3⟩ := ch_for (a := a) (c := c) (d := d) (v7 := v7) (v8 := v8) (v9 := v9) hb hg h0 h1 rest (L + 1) u (some r) S2 w2.bag hj (fun x hx => (go x hx).keep w12.keep) gu (by omega) (by omega)
    refine ⟨t', w6, S', ?_, gt', w12.trans w3⟩
    rw [forL_cons (e2 := [a, some (.ref b), c, d, some thing, some (.ref j), some r, v7, v8, v9]) rfl, ← q3]
    have st : bCH [a, some (.ref b), c, d, some thing, some (.ref j), some r, v7, v8, v9] S = .nx [a, some (.ref b), c, d, some u, some (.ref j), some r, v7, v8, v9] S2 := by
      simp only [OD.ev_bind, OD.ev_bindx, OD.ev_st, OD.ev_stx, OD.ev_nox, OD.ev_seq, OD.ev_seqr, OD.ev_seqx, OD.ev_lift, OD.ev_var, OD.ev_var1, OD.ev_k, OD.ev_op, OD.ev_op1, OD.ev_op2, OD.ev_un, OD.ev_un1, OD.ev_nil, OD.ev_cons, OD.ev_cons1, OD.ev_cons2, OD.ev_tup, OD.ev_tup1, OD.ev_lst, OD.ev_lst1, OD.ev_b, OD.ev_bl, OD.ev_b1, OD.ev_new, OD.ev_new1, OD.ev_m, OD.ev_m1, OD.ev_m2, OD.ev_and, OD.ev_andt, OD.ev_andf, OD.ev_or, OD.ev_ort, OD.ev_orf, OD.ev_not, OD.ev_not1, OD.ev_if, OD.ev_ift, OD.ev_iff, OD.ev_asb, OD.ev_asb1, OD.ev_tand, OD.ev_tandt, OD.ev_tandf, OD.ev_tor, OD.ev_tort, OD.ev_torf, OD.ev_tnot, OD.ev_tnot1, OD.ev_tru, OD.ev_tru1, OD.ev_o, OD.ev_is, OD.ev_is1, OD.ev_is2, OD.ev_ch, OD.ev_ch1, OD.ev_ch2, OD.ev_ch3t, OD.ev_ch3f, OD.ev_ch4, OD.ev_sl, OD.ev_sl1, OD.ev_sl2, OD.ev_sl3, OD.ev_on, OD.ev_os, OD.ev_os1, OD.ev_call, OD.ev_call1, OD.ev_asg, OD.ev_asg1, OD.ev_asgt, OD.ev_x, OD.ev_x1, OD.ev_r, OD.ev_r1, OD.ev_rn, OD.ev_skip, OD.ev_mseq, OD.ev_cont, OD.ev_break, OD.ev_ifs, OD.ev_ifst, OD.ev_ifsf, OD.ev_si, OD.ev_si1, OD.ev_si2, OD.ev_si3, OD.ev_si4, OD.ev_aug, OD.ev_aug0, OD.ev_aug1, OD.ev_aug2, OD.ev_fn, OD.ev_fnn, OD.ev_fnr, OD.ev_fnx, OD.ix_tup, OD.ix_lst, OD.ix_str, OD.at0, OD.at1, OD.at2, OD.at3, OD.len_tup, OD.len_scr, OD.len_lst, OD.int_int, OD.add_int, OD.add_tup, OD.sub_int, OD.eq_int, OD.eq_bl, OD.eq_str, OD.lt_int, OD.le_int, OD.gt_int, OD.ge_int, OD.mod_int, OD.div_int, OD.mul_int, OD.ev_wh, OD.ev_whf, OD.ev_wht, OD.ev_wen, OD.ev_wer, OD.ev_mst, OD.ev_mst1, OD.ev_msl, OD.ev_msl1, OD.ev_msl2, OD.ev_mscr, OD.ev_ent, OD.ev_ent1, OD.ev_zip, OD.ev_zip1, OD.ev_zip2, OD.ev_rg, OD.ev_lc, OD.ev_for, OD.ev_ext, OD.ev_ext1, List.getElem?_cons_zero, List.getElem?_cons_succ, List.set_cons_zero, List.set_cons_succ, List.replicate_succ, List.replicate_zero, List.map_cons, List.map_nil, List.length_cons, List.length_nil, List.cons_append, List.nil_append, List.append_nil, Nat.zero_add, Nat.reduceAdd, Nat.reduceSub, Nat.sub_self, ev_call1 (us := [U.ref b, U.ref j]) (n := 2) rfl, q1, ev_call1 (us := [U.ref b, thing, x, U.int 8]) (n := 4) rfl, q2]
    rw [st]
    rfl
theorem ik_step {a b : U} : ik (.tup [a, b]) = (within01 a && match b with
    | .tup xs => if xs.length ≤ 3 then ikGo 7 xs 1 else false
    | _ => false) := by
  unfold ik
  have e := ik_cons (n := 7) (w := []) (h := .tup [a, b]) (c := 0)
  rw [List.nil_append] at e
  rw [e, if_neg (by decide)]
  have hh : hdOk (.tup [a, b]) = within01 a := by cases a <;> rfl
  rw [hh]
  cases within01 a with
  | false => rfl
  | true =>
    rw [if_pos rfl, Bool.true_and]
    cases b with
    | tup xs =>
      show (match (if xs.length ≤ 3 then some xs else none) with
        | some xs => ikGo 7 ([] ++ xs) (0 + 1)
        | none => false) = _
      by_cases h : xs.length ≤ 3
      · rw [if_pos h]
        show _ = (if xs.length ≤ 3 then ikGo 7 xs 1 else false)
        rw [if_pos h]
        rfl
      · rw [if_neg h]
        show _ = (if xs.length ≤ 3 then ikGo 7 xs 1 else false)
        rw [if_neg h]
    | _ => rfl
theorem ik_flip {i : Int} {xs : List U} (hi : i = 0 ∨ i = 1) (h : ik (.tup [.int i, .tup xs]) = true) : ik (.tup [.int (1 - i), .tup xs]) = true := by
  rw [ik_step] at h ⊢
  rcases hi with rfl | rfl
  · exact h
  · exact h
theorem no_fEq (S : Sto) : fNe (.tup [.str [107, 105, 110, 100], .non]) (.tup [.str [107, 105, 110, 100], .non]) S = some (.bl false, S) := by
  have : fEq (.tup [.str [107, 105, 110, 100], .non]) (.tup [.str [107, 105, 110, 100], .non]) S = some (.bl true, S) := by
    show (match toDS S (.tup [.str [107, 105, 110, 100], .non]), toDS S (.tup [.str [107, 105, 110, 100], .non]) with
      | some d, some e => if SeqAt.shaped d && SeqAt.shaped e then some (U.bl (PyData.eqv d e), S) else none
      | _, _ => none) = _
    have e1 : toDS S (.tup [.str [107, 105, 110, 100], .non]) = some (.tuple [.str (toS [107, 105, 110, 100]), .none]) := rfl
    rw [e1]
    have e2 : SeqAt.shaped (.tuple [.str (toS [107, 105, 110, 100]), .none]) = true := by decide +kernel
    have e3 : PyData.eqv (.tuple [.str (toS [107, 105, 110, 100]), .none]) (.tuple [.str (toS [107, 105, 110, 100]), .none]) = true := by decide +kernel
    simp only [e2, e3, Bool.and_self, if_true]
  exact ne_of_eq this
theorem any_false {S : Sto} : fAny [.bl false, .bl false, .bl false] S = some (.bl false, S) := rfl
/-- what is no kind is refused thrice -/
theorem no_turn {L : Nat} {S : Sto} {a b c d th v5 v6 v8 v9 : Option U} {u : U} (g : Gd L S u) (h : ik u = false) : ∃ S', bT6 [a, b, c, d, some u, v5, v6, some (.bl false), v8, v9] S = .nx [a, b, c, d, some u, v5, v6, some (.bl false), v8, v9] S' ∧ App S S' := by
  have e0 : (S ++ [Cell.lst [U.fn 32, .fn 36, .fn 34]])[S.length]? = some (.lst [U.fn 32, .fn 36, .fn 34]) := last_get
  obtain ⟨S', q, a'⟩ := lc_app (t := .nm 9) (vs := [9]) (x := .cel S.length) (us := [U.fn 32, .fn 36, .fn 34]) (S := S ++ [Cell.lst [U.fn 32, .fn 36, .fn 34]]) (e := [a, b, c, d, some u, v5, v6, some (.bl false), v8, v9]) (te := (mOp fNe (mCall 2 d__law_told (mCons (mVar 9) (mCons (mVar 4) mNil))) (mTup (mCons (mK (.str [107, 105, 110, 100])) (mCons (mK .non) mNil))))) (r := fun _ => .bl false) (fun S' a => by
      unfold srcAt
      simp only [a.get e0]) zl3 fun z hz => by
    have key : ∀ (f : Nat) (D : FM), tab__law_told_ask f = some (1, D) → (∀ S1, App (S ++ [Cell.lst [U.fn 32, .fn 36, .fn 34]]) S1 → ∃ S', D [u] S1 = .ex 42 none S' ∧ App S1 S') → ∃ e', setT (.nm 9) (.fn f) (wipeE [a, b, c, d, some u, v5, v6, some (.bl false), v8, v9] [9]) = some e' ∧ ∀ S1, App (S ++ [Cell.lst [U.fn 32, .fn 36, .fn 34]]) S1 → ∃ S', (mOp fNe (mCall 2 d__law_told (mCons (mVar 9) (mCons (mVar 4) mNil))) (mTup (mCons (mK (.str [107, 105, 110, 100])) (mCons (mK .non) mNil)))) e' S1 = .ok (.bl false) S' ∧ App S1 S' := fun f D ht hD => by
      refine ⟨[a, b, c, d, some u, v5, v6, some (.bl false), v8, some (.fn f)], rfl, fun S1 a1 => ?_⟩
      obtain ⟨S2, q2, a2⟩ := told_ok (f := f) ht (hD S1 a1)
      refine ⟨S2, ?_, a2⟩
      simp only [OD.ev_bind, OD.ev_bindx, OD.ev_st, OD.ev_stx, OD.ev_nox, OD.ev_seq, OD.ev_seqr, OD.ev_seqx, OD.ev_lift, OD.ev_var, OD.ev_var1, OD.ev_k, OD.ev_op, OD.ev_op1, OD.ev_op2, OD.ev_un, OD.ev_un1, OD.ev_nil, OD.ev_cons, OD.ev_cons1, OD.ev_cons2, OD.ev_tup, OD.ev_tup1, OD.ev_lst, OD.ev_lst1, OD.ev_b, OD.ev_bl, OD.ev_b1, OD.ev_new, OD.ev_new1, OD.ev_m, OD.ev_m1, OD.ev_m2, OD.ev_and, OD.ev_andt, OD.ev_andf, OD.ev_or, OD.ev_ort, OD.ev_orf, OD.ev_not, OD.ev_not1, OD.ev_if, OD.ev_ift, OD.ev_iff, OD.ev_asb, OD.ev_asb1, OD.ev_tand, OD.ev_tandt, OD.ev_tandf, OD.ev_tor, OD.ev_tort, OD.ev_torf, OD.ev_tnot, OD.ev_tnot1, OD.ev_tru, OD.ev_tru1, OD.ev_o, OD.ev_is, OD.ev_is1, OD.ev_is2, OD.ev_ch, OD.ev_ch1, OD.ev_ch2, OD.ev_ch3t, OD.ev_ch3f, OD.ev_ch4, OD.ev_sl, OD.ev_sl1, OD.ev_sl2, OD.ev_sl3, OD.ev_on, OD.ev_os, OD.ev_os1, OD.ev_call, OD.ev_call1, OD.ev_asg, OD.ev_asg1, OD.ev_asgt, OD.ev_x, OD.ev_x1, OD.ev_r, OD.ev_r1, OD.ev_rn, OD.ev_skip, OD.ev_mseq, OD.ev_cont, OD.ev_break, OD.ev_ifs, OD.ev_ifst, OD.ev_ifsf, OD.ev_si, OD.ev_si1, OD.ev_si2, OD.ev_si3, OD.ev_si4, OD.ev_aug, OD.ev_aug0, OD.ev_aug1, OD.ev_aug2, OD.ev_fn, OD.ev_fnn, OD.ev_fnr, OD.ev_fnx, OD.ix_tup, OD.ix_lst, OD.ix_str, OD.at0, OD.at1, OD.at2, OD.at3, OD.len_tup, OD.len_scr, OD.len_lst, OD.int_int, OD.add_int, OD.add_tup, OD.sub_int, OD.eq_int, OD.eq_bl, OD.eq_str, OD.lt_int, OD.le_int, OD.gt_int, OD.ge_int, OD.mod_int, OD.div_int, OD.mul_int, OD.ev_wh, OD.ev_whf, OD.ev_wht, OD.ev_wen, OD.ev_wer, OD.ev_mst, OD.ev_mst1, OD.ev_msl, OD.ev_msl1, OD.ev_msl2, OD.ev_mscr, OD.ev_ent, OD.ev_ent1, OD.ev_zip, OD.ev_zip1, OD.ev_zip2, OD.ev_rg, OD.ev_lc, OD.ev_for, OD.ev_ext, OD.ev_ext1, List.getElem?_cons_zero, List.getElem?_cons_succ, List.set_cons_zero, List.set_cons_succ, List.replicate_succ, List.replicate_zero, List.map_cons, List.map_nil, List.length_cons, List.length_nil, List.cons_append, List.nil_append, List.append_nil, Nat.zero_add, Nat.reduceAdd, Nat.reduceSub, Nat.sub_self, ev_call1 (us := [U.fn f, u]) (n := 2) rfl, q2, ev_tup1 zl2, no_fEq]
    have gg : ∀ S1, App (S ++ [Cell.lst [U.fn 32, .fn 36, .fn 34]]) S1 → Gd L S1 u := fun S1 a1 => (g.app .app).app a1
    rcases List.mem_cons.mp hz with rfl | hz
    · exact key 32 d_counter rfl fun S1 a1 => counter_no (gg S1 a1) h
    · rcases List.mem_cons.mp hz with rfl | hz
      · exact key 36 d_knots rfl fun S1 a1 => knots_no (gg S1 a1) h
      · rw [List.mem_singleton.mp hz]
        exact key 34 d_kind_text rfl fun S1 a1 => text_no (gg S1 a1) h
  have q' : cLc (.nm 9) [9] mYes (mOp fNe (mCall 2 d__law_told (mCons (mVar 9) (mCons (mVar 4) mNil))) (mTup (mCons (mK (.str [107, 105, 110, 100])) (mCons (mK .non) mNil)))) [a, b, c, d, some u, v5, v6, some (.bl false), v8, v9] (.cel S.length) (S ++ [Cell.lst [U.fn 32, .fn 36, .fn 34]]) = .ok [.bl false, .bl false, .bl false] S' := q
  refine ⟨S', ?_, App.trans .app a'⟩
  simp only [OD.ev_bind, OD.ev_bindx, OD.ev_st, OD.ev_stx, OD.ev_nox, OD.ev_seq, OD.ev_seqr, OD.ev_seqx, OD.ev_lift, OD.ev_var, OD.ev_var1, OD.ev_k, OD.ev_op, OD.ev_op1, OD.ev_op2, OD.ev_un, OD.ev_un1, OD.ev_nil, OD.ev_cons, OD.ev_cons1, OD.ev_cons2, OD.ev_tup, OD.ev_tup1, OD.ev_lst, OD.ev_lst1, OD.ev_b, OD.ev_bl, OD.ev_b1, OD.ev_new, OD.ev_new1, OD.ev_m, OD.ev_m1, OD.ev_m2, OD.ev_and, OD.ev_andt, OD.ev_andf, OD.ev_or, OD.ev_ort, OD.ev_orf, OD.ev_not, OD.ev_not1, OD.ev_if, OD.ev_ift, OD.ev_iff, OD.ev_asb, OD.ev_asb1, OD.ev_tand, OD.ev_tandt, OD.ev_tandf, OD.ev_tor, OD.ev_tort, OD.ev_torf, OD.ev_tnot, OD.ev_tnot1, OD.ev_tru, OD.ev_tru1, OD.ev_o, OD.ev_is, OD.ev_is1, OD.ev_is2, OD.ev_ch, OD.ev_ch1, OD.ev_ch2, OD.ev_ch3t, OD.ev_ch3f, OD.ev_ch4, OD.ev_sl, OD.ev_sl1, OD.ev_sl2, OD.ev_sl3, OD.ev_on, OD.ev_os, OD.ev_os1, OD.ev_call, OD.ev_call1, OD.ev_asg, OD.ev_asg1, OD.ev_asgt, OD.ev_x, OD.ev_x1, OD.ev_r, OD.ev_r1, OD.ev_rn, OD.ev_skip, OD.ev_mseq, OD.ev_cont, OD.ev_break, OD.ev_ifs, OD.ev_ifst, OD.ev_ifsf, OD.ev_si, OD.ev_si1, OD.ev_si2, OD.ev_si3, OD.ev_si4, OD.ev_aug, OD.ev_aug0, OD.ev_aug1, OD.ev_aug2, OD.ev_fn, OD.ev_fnn, OD.ev_fnr, OD.ev_fnx, OD.ix_tup, OD.ix_lst, OD.ix_str, OD.at0, OD.at1, OD.at2, OD.at3, OD.len_tup, OD.len_scr, OD.len_lst, OD.int_int, OD.add_int, OD.add_tup, OD.sub_int, OD.eq_int, OD.eq_bl, OD.eq_str, OD.lt_int, OD.le_int, OD.gt_int, OD.ge_int, OD.mod_int, OD.div_int, OD.mul_int, OD.ev_wh, OD.ev_whf, OD.ev_wht, OD.ev_wen, OD.ev_wer, OD.ev_mst, OD.ev_mst1, OD.ev_msl, OD.ev_msl1, OD.ev_msl2, OD.ev_mscr, OD.ev_ent, OD.ev_ent1, OD.ev_zip, OD.ev_zip1, OD.ev_zip2, OD.ev_rg, OD.ev_lc, OD.ev_for, OD.ev_ext, OD.ev_ext1, List.getElem?_cons_zero, List.getElem?_cons_succ, List.set_cons_zero, List.set_cons_succ, List.replicate_succ, List.replicate_zero, List.map_cons, List.map_nil, List.length_cons, List.length_nil, List.cons_append, List.nil_append, List.append_nil, Nat.zero_add, Nat.reduceAdd, Nat.reduceSub, Nat.sub_self, tru_bl, Bool.not_false, ev_lst1 zl3, e0, q', any_false]
/-- what is a kind is told alike -/
theorem yes_turn {L : Nat} {S : Sto} {a b c d v5 v6 v8 v9 : Option U} {u : U} (g : Gd L S u) (h : ik u = true) : ∃ q S', bT6 [a, b, c, d, some u, v5, v6, some (.bl true), v8, v9] S = .nx [a, b, c, d, some u, v5, v6, some (.bl true), some (.ref q), v9] S' ∧ App S S' := by
  obtain ⟨S1, q, q1, a1, e1, hq⟩ := knots_ok g h
  have k8 := kd_ik h
  obtain ⟨i, xs, rfl, hi⟩ : ∃ i xs, u = .tup [.int i, .tup xs] ∧ (i = 0 ∨ i = 1) := by
    cases k8 with
    | mk hi hl h => exact ⟨_, _, rfl, hi⟩
  have pl16 := k8.pl
  have g1 : Gd L S1 (.tup [.int i, .tup xs]) := g.app a1
  obtain ⟨S2, q2, a2⟩ := counter_ok g1 h
  have pc : Pl 16 (.tup [.int (1 - i), .tup xs]) := by
    cases k8 with
    | mk hi hl h => exact (Kd.mk (n := 7) (by omega) hl h).pl
  obtain ⟨S3, q3, a3⟩ := is_ok 16 _ pc 24 (by decide) S2
  have g3 : Gd L S3 (.tup [.int i, .tup xs]) := (g1.app a2).app a3
  obtain ⟨S4, q4, a4⟩ := counter_ok g3 h
  have gc : Gd L S4 (.tup [.int (1 - i), .tup xs]) := by
    have g4 := g3.app a4
    have hx := gd_tup g4 (.tup xs) (by simp)
    cases g4 with
    | tup hl _ =>
      refine .tup hl fun y hy => ?_
      rcases List.mem_cons.mp hy with e | hy
      · rw [e]; exact .int _
      · rw [List.mem_singleton.mp hy]; exact hx
  obtain ⟨S5, q5, a5⟩ := counter_ok gc (ik_flip hi h)
  have ei : 1 - (1 - i) = i := by omega
  rw [ei] at q5
  have en : ∀ S : Sto, fNe (.tup [.int i, .tup xs]) (.tup [.int i, .tup xs]) S = some (.bl false, S) := fun S => by
    have e := eq_tup (S := S) pl16 pl16 (by decide) (by decide)
    have es : eqUs [.int i, .tup xs] [.int i, .tup xs] = true := by
      have := eqU_self pl16
      simpa only [OD.eqU] using this
    rw [es] at e
    exact ne_of_eq e
  obtain ⟨S6, q', q6, a6, e6⟩ := law_knots_ok 8 _ k8 (by decide) 10 (by decide) S5
  have A15 := ((a2.trans a3).trans a4).trans a5
  have e1' : S6[q]? = some (.lst ((sortK (P8 (.tup [.int i, .tup xs]))).map kTup)) := (A15.trans a6).get e1
  have hsz : (sortK (P8 (.tup [.int i, .tup xs]))).length ≤ 65536 := by rw [(sortK_perm _).length_eq]; exact pts_small k8 (by decide)
  have hpl : ∀ x, x ∈ (sortK (P8 (.tup [.int i, .tup xs]))).map kTup → Pl 1 x := fun x hx => by
    obtain ⟨k, hk, rfl⟩ := List.mem_map.mp hx
    refine pl_kTup k ?_
    have := pts_depth 8 _ k8 k ((sortK_perm _).mem_iff.mp hk)
    omega
  obtain ⟨S7, q7, a7⟩ := is_lst (n := 1) (k := 23) e1' e6 (by rw [List.length_map]; omega) hpl (by decide)
  have A7 := (A15.trans a6).trans a7
  have g7 : Gd L S7 (.tup [.int i, .tup xs]) := g1.app A7
  obtain ⟨S8, q8, a8⟩ := text_ok g7 h
  obtain ⟨S9, q9, a9⟩ := kword_ok 8 _ k8 (by decide) 10 (by decide) S8
  have A9 := (A7.trans a8).trans a9
  have e9 : S9[q]? = some (.lst ((sortK (P8 (.tup [.int i, .tup xs]))).map kTup)) := A9.get e1
  have l9 : q < S9.length := (List.getElem?_eq_some_iff.mp e9).1
  have hap := append_ok (z := .tup []) e9 (by rw [List.length_map, size_is]; omega)
  have e10 : (S9.set q (.lst ((sortK (P8 (.tup [.int i, .tup xs]))).map kTup ++ [.tup []])))[q]? = some (.lst ((sortK (P8 (.tup [.int i, .tup xs]))).map kTup ++ [.tup []])) := List.getElem?_set_self l9
  have g10 : Gd L (S9.set q (.lst ((sortK (P8 (.tup [.int i, .tup xs]))).map kTup ++ [.tup []]))) (.tup [.int i, .tup xs]) := (g1.app A9).keep (Keep.set e9)
  obtain ⟨S11, q11', q11, a11, e11, _⟩ := knots_ok g10 h
  have ef : fEq (.ref q11') (.ref q) S11 = some (.bl false, S11) := by
    have e := eq_lst (n := 1) e11 (a11.get e10) hpl (fun x hx => by
      rcases List.mem_append.mp hx with z | z
      · exact hpl x z
      · rw [List.mem_singleton.mp z]
        exact pl_kTup [] (by simp)) (by decide)
    rw [eqUs_len _ _ (by simp)] at e
    exact e
  have est : ∀ S : Sto, fNe (.str (tx 8 (.tup [.int i, .tup xs]))) (.str (tx 8 (.tup [.int i, .tup xs]))) S = some (.bl false, S) := fun S => ne_of_eq (b := true) (by
    rw [OD.eq_str]
    simp)
  refine ⟨q, S11, ?_, ?_⟩
  · simp only [OD.ev_bind, OD.ev_bindx, OD.ev_st, OD.ev_stx, OD.ev_nox, OD.ev_seq, OD.ev_seqr, OD.ev_seqx, OD.ev_lift, OD.ev_var, OD.ev_var1, OD.ev_k, OD.ev_op, OD.ev_op1, OD.ev_op2, OD.ev_un, OD.ev_un1, OD.ev_nil, OD.ev_cons, OD.ev_cons1, OD.ev_cons2, OD.ev_tup, OD.ev_tup1, OD.ev_lst, OD.ev_lst1, OD.ev_b, OD.ev_bl, OD.ev_b1, OD.ev_new, OD.ev_new1, OD.ev_m, OD.ev_m1, OD.ev_m2, OD.ev_and, OD.ev_andt, OD.ev_andf, OD.ev_or, OD.ev_ort, OD.ev_orf, OD.ev_not, OD.ev_not1, OD.ev_if, OD.ev_ift, OD.ev_iff, OD.ev_asb, OD.ev_asb1, OD.ev_tand, OD.ev_tandt, OD.ev_tandf, OD.ev_tor, OD.ev_tort, OD.ev_torf, OD.ev_tnot, OD.ev_tnot1, OD.ev_tru, OD.ev_tru1, OD.ev_o, OD.ev_is, OD.ev_is1, OD.ev_is2, OD.ev_ch, OD.ev_ch1, OD.ev_ch2, OD.ev_ch3t, OD.ev_ch3f, OD.ev_ch4, OD.ev_sl, OD.ev_sl1, OD.ev_sl2, OD.ev_sl3, OD.ev_on, OD.ev_os, OD.ev_os1, OD.ev_call, OD.ev_call1, OD.ev_asg, OD.ev_asg1, OD.ev_asgt, OD.ev_x, OD.ev_x1, OD.ev_r, OD.ev_r1, OD.ev_rn, OD.ev_skip, OD.ev_mseq, OD.ev_cont, OD.ev_break, OD.ev_ifs, OD.ev_ifst, OD.ev_ifsf, OD.ev_si, OD.ev_si1, OD.ev_si2, OD.ev_si3, OD.ev_si4, OD.ev_aug, OD.ev_aug0, OD.ev_aug1, OD.ev_aug2, OD.ev_fn, OD.ev_fnn, OD.ev_fnr, OD.ev_fnx, OD.ix_tup, OD.ix_lst, OD.ix_str, OD.at0, OD.at1, OD.at2, OD.at3, OD.len_tup, OD.len_scr, OD.len_lst, OD.int_int, OD.add_int, OD.add_tup, OD.sub_int, OD.eq_int, OD.eq_bl, OD.eq_str, OD.lt_int, OD.le_int, OD.gt_int, OD.ge_int, OD.mod_int, OD.div_int, OD.mul_int, OD.ev_wh, OD.ev_whf, OD.ev_wht, OD.ev_wen, OD.ev_wer, OD.ev_mst, OD.ev_mst1, OD.ev_msl, OD.ev_msl1, OD.ev_msl2, OD.ev_mscr, OD.ev_ent, OD.ev_ent1, OD.ev_zip, OD.ev_zip1, OD.ev_zip2, OD.ev_rg, OD.ev_lc, OD.ev_for, OD.ev_ext, OD.ev_ext1, List.getElem?_cons_zero, List.getElem?_cons_succ, List.set_cons_zero, List.set_cons_succ, List.replicate_succ, List.replicate_zero, List.map_cons, List.map_nil, List.length_cons, List.length_nil, List.cons_append, List.nil_append, List.append_nil, Nat.zero_add, Nat.reduceAdd, Nat.reduceSub, Nat.sub_self, tru_bl, Bool.not_true, Bool.not_false, ev_call1 (us := [U.tup [.int i, .tup xs]]) (n := 1) rfl, q1, q2, OD.ix_tup at0, OD.ix_tup at1, ev_tup1 zl2, ev_call1 (us := [U.tup [.int (1 - i), .tup xs], U.tup [.int (1 - i), .tup xs]]) (n := 2) rfl, q3, q4, ev_call1 (us := [U.tup [.int (1 - i), .tup xs]]) (n := 1) rfl, q5, en, q6, ev_call1 (us := [U.ref q, U.ref q']) (n := 2) rfl, q7, q8, q9, est, isTy_lst e9, ev_tup1 zl0, hap, q11, ef]
  · refine ⟨?_, fun k hk => ?_⟩
    · have := a1.len; have := A9.len; have := a11.len
      simp only [List.length_set] at this
      omega
    · have hk1 : k < S1.length := Nat.lt_of_lt_of_le hk a1.len
      have hk9 : k < S9.length := Nat.lt_of_lt_of_le hk1 A9.len
      rw [a11.same k (by rw [List.length_set]; exact hk9), List.getElem?_set_ne (by omega), A9.same k hk1, a1.same k hk]
end K01
end

section
set_option Elab.async false
set_option linter.all false
set_option autoImplicit false
set_option maxRecDepth 100000
set_option maxHeartbeats 4000000
/-! the plain law of k01: the whole -/
namespace K01
open PySem L2 OD
theorem ins_keep {S S' : Sto} (h : insB S[4]? = true) (k : Keep S S') : insB S'[4]? = true := by
  unfold insB at h
  split at h
  · rename_i fs e
    rcases k 4 _ e with ⟨_, _, z, _⟩ | e2
    · cases z
    · rw [e2]; rfl
  · cases h
theorem turn_ok {sc : U} {S : Sto} {t v4 v5 v6 v7 v8 v9 : Option U} (B : Bag 3 2 S) (hi : insB S[4]? = true) :
    ∃ w4 w5 w6 w7 w8 w9 S', bTN [some sc, some (.ref 3), some (.ref 4), t, v4, v5, v6, v7, v8, v9] S = .nx [some sc, some (.ref 3), some (.ref 4), t, w4, w5, w6, w7, w8, w9] S' ∧ Wk 3 2 S S' := by
  obtain ⟨d, S1, q1, d1, d2, w1⟩ := pick_wk (b := 3) (g := 2) (many := 7) B (by decide) (by decide)
  obtain ⟨th, S2, q2, gt, w2⟩ := grown_ok 10 (1 + d) 3 2 S1 w1.bag (by omega) (by omega) (by omega)
  have h0 : bT0 [some sc, some (.ref 3), some (.ref 4), t, v4, v5, v6, v7, v8, v9] S = .nx [some sc, some (.ref 3), some (.ref 4), t, some th, v5, v6, v7, v8, v9] S2 := by
    simp only [OD.ev_bind, OD.ev_bindx, OD.ev_st, OD.ev_stx, OD.ev_nox, OD.ev_seq, OD.ev_seqr, OD.ev_seqx, OD.ev_lift, OD.ev_var, OD.ev_var1, OD.ev_k, OD.ev_op, OD.ev_op1, OD.ev_op2, OD.ev_un, OD.ev_un1, OD.ev_nil, OD.ev_cons, OD.ev_cons1, OD.ev_cons2, OD.ev_tup, OD.ev_tup1, OD.ev_lst, OD.ev_lst1, OD.ev_b, OD.ev_bl, OD.ev_b1, OD.ev_new, OD.ev_new1, OD.ev_m, OD.ev_m1, OD.ev_m2, OD.ev_and, OD.ev_andt, OD.ev_andf, OD.ev_or, OD.ev_ort, OD.ev_orf, OD.ev_not, OD.ev_not1, OD.ev_if, OD.ev_ift, OD.ev_iff, OD.ev_asb, OD.ev_asb1, OD.ev_tand, OD.ev_tandt, OD.ev_tandf, OD.ev_tor, OD.ev_tort, OD.ev_torf, OD.ev_tnot, OD.ev_tnot1, OD.ev_tru, OD.ev_tru1, OD.ev_o, OD.ev_is, OD.ev_is1, OD.ev_is2, OD.ev_ch, OD.ev_ch1, OD.ev_ch2, OD.ev_ch3t, OD.ev_ch3f, OD.ev_ch4, OD.ev_sl, OD.ev_sl1, OD.ev_sl2, OD.ev_sl3, OD.ev_on, OD.ev_os, OD.ev_os1, OD.ev_call, OD.ev_call1, OD.ev_asg, OD.ev_asg1, OD.ev_asgt, OD.ev_x, OD.ev_x1, OD.ev_r, OD.ev_r1, OD.ev_rn, OD.ev_skip, OD.ev_mseq, OD.ev_cont, OD.ev_break, OD.ev_ifs, OD.ev_ifst, OD.ev_ifsf, OD.ev_si, OD.ev_si1, OD.ev_si2, OD.ev_si3, OD.ev_si4, OD.ev_aug, OD.ev_aug0, OD.ev_aug1, OD.ev_aug2, OD.ev_fn, OD.ev_fnn, OD.ev_fnr, OD.ev_fnx, OD.ix_tup, OD.ix_lst, OD.ix_str, OD.at0, OD.at1, OD.at2, OD.at3, OD.len_tup, OD.len_scr, OD.len_lst, OD.int_int, OD.add_int, OD.add_tup, OD.sub_int, OD.eq_int, OD.eq_bl, OD.eq_str, OD.lt_int, OD.le_int, OD.gt_int, OD.ge_int, OD.mod_int, OD.div_int, OD.mul_int, OD.ev_wh, OD.ev_whf, OD.ev_wht, OD.ev_wen, OD.ev_wer, OD.ev_mst, OD.ev_mst1, OD.ev_msl, OD.ev_msl1, OD.ev_msl2, OD.ev_mscr, OD.ev_ent, OD.ev_ent1, OD.ev_zip, OD.ev_zip1, OD.ev_zip2, OD.ev_rg, OD.ev_lc, OD.ev_for, OD.ev_ext, OD.ev_ext1, List.getElem?_cons_zero, List.getElem?_cons_succ, List.set_cons_zero, List.set_cons_succ, List.replicate_succ, List.replicate_zero, List.map_cons, List.map_nil, List.length_cons, List.length_nil, List.cons_append, List.nil_append, List.append_nil, Nat.zero_add, Nat.reduceAdd, Nat.reduceSub, Nat.sub_self, ev_call1 (us := [U.ref 3, U.int 7]) (n := 2) rfl, q1, ev_call1 (us := [U.ref 3, U.int (1 + d)]) (n := 2) rfl, q2]
  have w12 := w1.trans w2
  -- the odd things
  have a1 : App S2 (A4 S2 ++ [Cell.lst (os1 S2)]) := App.trans (App.trans (App.trans (App.trans .app .app) .app) .app) .app
  have h1 : bT1 [some sc, some (.ref 3), some (.ref 4), t, some th, v5, v6, v7, v8, v9] S2 = .nx [some sc, some (.ref 3), some (.ref 4), t, some th, some (.ref (A4 S2).length), v6, v7, v8, v9] (A4 S2 ++ [Cell.lst (os1 S2)]) := odd1_ok _ S2
  have h2 := odd2_ok (S := A4 S2 ++ [Cell.lst (os1 S2)]) (j := (A4 S2).length) (xs := os1 S2) (a := some sc) (b := some (.ref 3)) (c := none) (d := t) (f4 := some th) (v6 := v6) (v7 := v7) (v8 := v8) (v9 := v9) last_get (by simp)
  obtain ⟨S3, eS3⟩ : ∃ S3, A4 S2 ++ [Cell.lst (os1 S2)] = S3 := ⟨_, rfl⟩
  have g1 := odd1_gd S2
  rw [eS3] at h1 h2 a1 g1
  have a2 : App S3 ((S3 ++ [Cell.lst os2]) ++ [Cell.lst (os1 S2 ++ os2)]) := App.trans .app .app
  have a12 := App.trans a1 a2
  have B3 := w12.bag.app a12
  have i3 : insB ((S3 ++ [Cell.lst os2]) ++ [Cell.lst (os1 S2 ++ os2)])[4]? = true := ins_keep hi (w12.keep.trans (appKeep a12))
  have g2 := odd2_gd i3
  have gos : ∀ x, x ∈ os1 S2 ++ os2 → Gd 30 ((S3 ++ [Cell.lst os2]) ++ [Cell.lst (os1 S2 ++ os2)]) x := fun x hx => by
    rcases List.mem_append.mp hx with z | z
    · exact (g1 x z).app a2
    · exact g2 x z
  have ej : ((S3 ++ [Cell.lst os2]) ++ [Cell.lst (os1 S2 ++ os2)])[(S3 ++ [Cell.lst os2]).length]? = some (.lst (os1 S2 ++ os2)) := last_get
  have l3 : 4 < S3.length := Nat.lt_of_lt_of_le w12.bag.lb a1.len |> fun h => by
    have := w12.bag.lb
    have h5 : S2.length + 5 = S3.length := by rw [← eS3]; simp
    omega
  obtain ⟨S4, eS4⟩ : ∃ S4, (S3 ++ [Cell.lst os2]) ++ [Cell.lst (os1 S2 ++ os2)] = S4 := ⟨_, rfl⟩
  obtain ⟨j, ejj⟩ : ∃ j, (S3 ++ [Cell.lst os2]).length = j := ⟨_, rfl⟩
  have hj : 4 < j := by rw [← ejj, List.length_append]; omega
  rw [eS4] at h2 a2 a12 B3 i3 gos ej
  rw [ejj] at h2 ej
  -- the changes
  obtain ⟨n, S5, q5, n1, n2, w5⟩ := pick_wk (b := 3) (g := 2) (many := 3) B3 (by decide) (by decide)
  have ej5 : S5[j]? = some (.lst (os1 S2 ++ os2)) := by rw [w5.st.same j (by omega) (by omega) (List.getElem?_eq_some_iff.mp ej).1]; exact ej
  have hlen : (rngU 0 n.toNat).length ≤ 3 := by
    unfold rngU
    rw [List.length_map, List.length_range]
    omega
  obtain ⟨u, w6, S6, q6, gu, w6k⟩ := ch_for (b := 3) (g := 2) (j := j) (os := os1 S2 ++ os2) (a := some sc) (c := some (.ref 4)) (d := t) (v7 := v7) (v8 := v8) (v9 := v9) (by omega) (by omega) (by simp) (by simp) (rngU 0 n.toNat) 30 th v6 S5 w5.bag ej5 (fun x hx => (gos x hx).keep w5.keep) ((((gt.more (by decide)).app a12)).keep w5.keep) (Nat.le_refl _) (by omega)
  have h3 : bT3 [some sc, some (.ref 3), some (.ref 4), t, some th, some (.ref j), v6, v7, v8, v9] S4 = .nx [some sc, some (.ref 3), some (.ref 4), t, some u, some (.ref j), w6, v7, v8, v9] S6 := by
    simp only [OD.ev_bind, OD.ev_bindx, OD.ev_st, OD.ev_stx, OD.ev_nox, OD.ev_seq, OD.ev_seqr, OD.ev_seqx, OD.ev_lift, OD.ev_var, OD.ev_var1, OD.ev_k, OD.ev_op, OD.ev_op1, OD.ev_op2, OD.ev_un, OD.ev_un1, OD.ev_nil, OD.ev_cons, OD.ev_cons1, OD.ev_cons2, OD.ev_tup, OD.ev_tup1, OD.ev_lst, OD.ev_lst1, OD.ev_b, OD.ev_bl, OD.ev_b1, OD.ev_new, OD.ev_new1, OD.ev_m, OD.ev_m1, OD.ev_m2, OD.ev_and, OD.ev_andt, OD.ev_andf, OD.ev_or, OD.ev_ort, OD.ev_orf, OD.ev_not, OD.ev_not1, OD.ev_if, OD.ev_ift, OD.ev_iff, OD.ev_asb, OD.ev_asb1, OD.ev_tand, OD.ev_tandt, OD.ev_tandf, OD.ev_tor, OD.ev_tort, OD.ev_torf, OD.ev_tnot, OD.ev_tnot1, OD.ev_tru, OD.ev_tru1, OD.ev_o, OD.ev_is, OD.ev_is1, OD.ev_is2, OD.ev_ch, OD.ev_ch1, OD.ev_ch2, OD.ev_ch3t, OD.ev_ch3f, OD.ev_ch4, OD.ev_sl, OD.ev_sl1, OD.ev_sl2, OD.ev_sl3, OD.ev_on, OD.ev_os, OD.ev_os1, OD.ev_call, OD.ev_call1, OD.ev_asg, OD.ev_asg1, OD.ev_asgt, OD.ev_x, OD.ev_x1, OD.ev_r, OD.ev_r1, OD.ev_rn, OD.ev_skip, OD.ev_mseq, OD.ev_cont, OD.ev_break, OD.ev_ifs, OD.ev_ifst, OD.ev_ifsf, OD.ev_si, OD.ev_si1, OD.ev_si2, OD.ev_si3, OD.ev_si4, OD.ev_aug, OD.ev_aug0, OD.ev_aug1, OD.ev_aug2, OD.ev_fn, OD.ev_fnn, OD.ev_fnr, OD.ev_fnx, OD.ix_tup, OD.ix_lst, OD.ix_str, OD.at0, OD.at1, OD.at2, OD.at3, OD.len_tup, OD.len_scr, OD.len_lst, OD.int_int, OD.add_int, OD.add_tup, OD.sub_int, OD.eq_int, OD.eq_bl, OD.eq_str, OD.lt_int, OD.le_int, OD.gt_int, OD.ge_int, OD.mod_int, OD.div_int, OD.mul_int, OD.ev_wh, OD.ev_whf, OD.ev_wht, OD.ev_wen, OD.ev_wer, OD.ev_mst, OD.ev_mst1, OD.ev_msl, OD.ev_msl1, OD.ev_msl2, OD.ev_mscr, OD.ev_ent, OD.ev_ent1, OD.ev_zip, OD.ev_zip1, OD.ev_zip2, OD.ev_rg, OD.ev_lc, OD.ev_for, OD.ev_ext, OD.ev_ext1, List.getElem?_cons_zero, List.getElem?_cons_succ, List.set_cons_zero, List.set_cons_succ, List.replicate_succ, List.replicate_zero, List.map_cons, List.map_nil, List.length_cons, List.length_nil, List.cons_append, List.nil_append, List.append_nil, Nat.zero_add, Nat.reduceAdd, Nat.reduceSub, Nat.sub_self, ev_call1 (us := [U.ref 3, U.int 3]) (n := 2) rfl, q5, rg_run (j := n) (by omega), for_its]
    exact q6
  -- what it is
  obtain ⟨S7, q7, a7⟩ := lk_ok gu
  have h4 : bT4 [some sc, some (.ref 3), some (.ref 4), t, some u, some (.ref j), w6, v7, v8, v9] S6 = .nx [some sc, some (.ref 3), some (.ref 4), t, some u, some (.ref j), w6, some (.bl (ik u)), v8, v9] S7 := by
    simp only [OD.ev_bind, OD.ev_bindx, OD.ev_st, OD.ev_stx, OD.ev_nox, OD.ev_seq, OD.ev_seqr, OD.ev_seqx, OD.ev_lift, OD.ev_var, OD.ev_var1, OD.ev_k, OD.ev_op, OD.ev_op1, OD.ev_op2, OD.ev_un, OD.ev_un1, OD.ev_nil, OD.ev_cons, OD.ev_cons1, OD.ev_cons2, OD.ev_tup, OD.ev_tup1, OD.ev_lst, OD.ev_lst1, OD.ev_b, OD.ev_bl, OD.ev_b1, OD.ev_new, OD.ev_new1, OD.ev_m, OD.ev_m1, OD.ev_m2, OD.ev_and, OD.ev_andt, OD.ev_andf, OD.ev_or, OD.ev_ort, OD.ev_orf, OD.ev_not, OD.ev_not1, OD.ev_if, OD.ev_ift, OD.ev_iff, OD.ev_asb, OD.ev_asb1, OD.ev_tand, OD.ev_tandt, OD.ev_tandf, OD.ev_tor, OD.ev_tort, OD.ev_torf, OD.ev_tnot, OD.ev_tnot1, OD.ev_tru, OD.ev_tru1, OD.ev_o, OD.ev_is, OD.ev_is1, OD.ev_is2, OD.ev_ch, OD.ev_ch1, OD.ev_ch2, OD.ev_ch3t, OD.ev_ch3f, OD.ev_ch4, OD.ev_sl, OD.ev_sl1, OD.ev_sl2, OD.ev_sl3, OD.ev_on, OD.ev_os, OD.ev_os1, OD.ev_call, OD.ev_call1, OD.ev_asg, OD.ev_asg1, OD.ev_asgt, OD.ev_x, OD.ev_x1, OD.ev_r, OD.ev_r1, OD.ev_rn, OD.ev_skip, OD.ev_mseq, OD.ev_cont, OD.ev_break, OD.ev_ifs, OD.ev_ifst, OD.ev_ifsf, OD.ev_si, OD.ev_si1, OD.ev_si2, OD.ev_si3, OD.ev_si4, OD.ev_aug, OD.ev_aug0, OD.ev_aug1, OD.ev_aug2, OD.ev_fn, OD.ev_fnn, OD.ev_fnr, OD.ev_fnx, OD.ix_tup, OD.ix_lst, OD.ix_str, OD.at0, OD.at1, OD.at2, OD.at3, OD.len_tup, OD.len_scr, OD.len_lst, OD.int_int, OD.add_int, OD.add_tup, OD.sub_int, OD.eq_int, OD.eq_bl, OD.eq_str, OD.lt_int, OD.le_int, OD.gt_int, OD.ge_int, OD.mod_int, OD.div_int, OD.mul_int, OD.ev_wh, OD.ev_whf, OD.ev_wht, OD.ev_wen, OD.ev_wer, OD.ev_mst, OD.ev_mst1, OD.ev_msl, OD.ev_msl1, OD.ev_msl2, OD.ev_mscr, OD.ev_ent, OD.ev_ent1, OD.ev_zip, OD.ev_zip1, OD.ev_zip2, OD.ev_rg, OD.ev_lc, OD.ev_for, OD.ev_ext, OD.ev_ext1, List.getElem?_cons_zero, List.getElem?_cons_succ, List.set_cons_zero, List.set_cons_succ, List.replicate_succ, List.replicate_zero, List.map_cons, List.map_nil, List.length_cons, List.length_nil, List.cons_append, List.nil_append, List.append_nil, Nat.zero_add, Nat.reduceAdd, Nat.reduceSub, Nat.sub_self, ev_call1 (us := [u]) (n := 1) rfl, q7]
  obtain ⟨S8, q8, a8⟩ := is_kind_ok (gu.app a7)
  obtain ⟨S9, q9, a9⟩ := is_ok 0 (.bl (ik u)) (.bl _) 24 (by decide) S8
  have h5 : bT5 [some sc, some (.ref 3), some (.ref 4), t, some u, some (.ref j), w6, some (.bl (ik u)), v8, v9] S7 = .nx [some sc, some (.ref 3), some (.ref 4), t, some u, some (.ref j), w6, some (.bl (ik u)), v8, v9] S9 := by
    simp only [OD.ev_bind, OD.ev_bindx, OD.ev_st, OD.ev_stx, OD.ev_nox, OD.ev_seq, OD.ev_seqr, OD.ev_seqx, OD.ev_lift, OD.ev_var, OD.ev_var1, OD.ev_k, OD.ev_op, OD.ev_op1, OD.ev_op2, OD.ev_un, OD.ev_un1, OD.ev_nil, OD.ev_cons, OD.ev_cons1, OD.ev_cons2, OD.ev_tup, OD.ev_tup1, OD.ev_lst, OD.ev_lst1, OD.ev_b, OD.ev_bl, OD.ev_b1, OD.ev_new, OD.ev_new1, OD.ev_m, OD.ev_m1, OD.ev_m2, OD.ev_and, OD.ev_andt, OD.ev_andf, OD.ev_or, OD.ev_ort, OD.ev_orf, OD.ev_not, OD.ev_not1, OD.ev_if, OD.ev_ift, OD.ev_iff, OD.ev_asb, OD.ev_asb1, OD.ev_tand, OD.ev_tandt, OD.ev_tandf, OD.ev_tor, OD.ev_tort, OD.ev_torf, OD.ev_tnot, OD.ev_tnot1, OD.ev_tru, OD.ev_tru1, OD.ev_o, OD.ev_is, OD.ev_is1, OD.ev_is2, OD.ev_ch, OD.ev_ch1, OD.ev_ch2, OD.ev_ch3t, OD.ev_ch3f, OD.ev_ch4, OD.ev_sl, OD.ev_sl1, OD.ev_sl2, OD.ev_sl3, OD.ev_on, OD.ev_os, OD.ev_os1, OD.ev_call, OD.ev_call1, OD.ev_asg, OD.ev_asg1, OD.ev_asgt, OD.ev_x, OD.ev_x1, OD.ev_r, OD.ev_r1, OD.ev_rn, OD.ev_skip, OD.ev_mseq, OD.ev_cont, OD.ev_break, OD.ev_ifs, OD.ev_ifst, OD.ev_ifsf, OD.ev_si, OD.ev_si1, OD.ev_si2, OD.ev_si3, OD.ev_si4, OD.ev_aug, OD.ev_aug0, OD.ev_aug1, OD.ev_aug2, OD.ev_fn, OD.ev_fnn, OD.ev_fnr, OD.ev_fnx, OD.ix_tup, OD.ix_lst, OD.ix_str, OD.at0, OD.at1, OD.at2, OD.at3, OD.len_tup, OD.len_scr, OD.len_lst, OD.int_int, OD.add_int, OD.add_tup, OD.sub_int, OD.eq_int, OD.eq_bl, OD.eq_str, OD.lt_int, OD.le_int, OD.gt_int, OD.ge_int, OD.mod_int, OD.div_int, OD.mul_int, OD.ev_wh, OD.ev_whf, OD.ev_wht, OD.ev_wen, OD.ev_wer, OD.ev_mst, OD.ev_mst1, OD.ev_msl, OD.ev_msl1, OD.ev_msl2, OD.ev_mscr, OD.ev_ent, OD.ev_ent1, OD.ev_zip, OD.ev_zip1, OD.ev_zip2, OD.ev_rg, OD.ev_lc, OD.ev_for, OD.ev_ext, OD.ev_ext1, List.getElem?_cons_zero, List.getElem?_cons_succ, List.set_cons_zero, List.set_cons_succ, List.replicate_succ, List.replicate_zero, List.map_cons, List.map_nil, List.length_cons, List.length_nil, List.cons_append, List.nil_append, List.append_nil, Nat.zero_add, Nat.reduceAdd, Nat.reduceSub, Nat.sub_self, ev_call1 (us := [u]) (n := 1) rfl, q8, ev_call1 (us := [U.bl (ik u), U.bl (ik u)]) (n := 2) rfl, q9, tru_bl, Bool.not_true]
  have g9 : Gd 1000 S9 u := ((gu.app a7).app a8).app a9
  have W6 : Wk 3 2 S S6 := ((w12.trans (appWk a12 w12.bag)).trans w5).trans w6k
  have A69 : App S6 S9 := App.trans (App.trans a7 a8) a9
  cases hk : ik u with
  | false =>
    obtain ⟨S', q10, a10⟩ := no_turn (a := some sc) (b := some (.ref 3)) (c := some (.ref 4)) (d := t) (th := none) (v5 := some (.ref j)) (v6 := w6) (v8 := v8) (v9 := v9) g9 hk
    rw [hk] at h4 h5
    have A := App.trans A69 a10
    refine ⟨some u, some (.ref j), w6, some (.bl false), v8, v9, S', ?_, W6.trans (appWk A W6.bag)⟩
    show mSeq bT0 (mSeq bT1 (mSeq bT2 (mSeq bT3 (mSeq bT4 (mSeq bT5 bT6))))) _ _ = _
    rw [ev_mseq, h0, ev_seq, ev_mseq, h1, ev_seq, ev_mseq, h2, ev_seq, ev_mseq, h3, ev_seq, ev_mseq, h4, ev_seq, ev_mseq, h5, ev_seq, q10]
  | true =>
    obtain ⟨q, S', q10, a10⟩ := yes_turn (a := some sc) (b := some (.ref 3)) (c := some (.ref 4)) (d := t) (v5 := some (.ref j)) (v6 := w6) (v8 := v8) (v9 := v9) g9 hk
    rw [hk] at h4 h5
    have A := App.trans A69 a10
    refine ⟨some u, some (.ref j), w6, some (.bl true), some (.ref q), v9, S', ?_, W6.trans (appWk A W6.bag)⟩
    show mSeq bT0 (mSeq bT1 (mSeq bT2 (mSeq bT3 (mSeq bT4 (mSeq bT5 bT6))))) _ _ = _
    rw [ev_mseq, h0, ev_seq, ev_mseq, h1, ev_seq, ev_mseq, h2, ev_seq, ev_mseq, h3, ev_seq, ev_mseq, h4, ev_seq, ev_mseq, h5, ev_seq, q10]
theorem turns_ok {sc : U} : ∀ (rest : List U) (S : Sto) (t v4 v5 v6 v7 v8 v9 : Option U), Bag 3 2 S → insB S[4]? = true →
    ∃ e' S', forL (.nm 3) bTN rest [some sc, some (.ref 3), some (.ref 4), t, v4, v5, v6, v7, v8, v9] S = .nx e' S'
  | [], S, t, v4, v5, v6, v7, v8, v9, B, hi => ⟨_, S, rfl⟩
  | r :: rest, S, t, v4, v5, v6, v7, v8, v9, B, hi => by
    obtain ⟨w4, w5, w6, w7, w8, w9, S1, q1, k1⟩ := turn_ok (sc := sc) (t := some r) (v4 := v4) (v5 := v5) (v6 := v6) (v7 := v7) (v8 := v8) (v9 := v9) B hi
    obtain ⟨e', S', q2⟩ := turns_ok (sc := sc) rest S1 (some r) w4 w5 w6 w7 w8 w9 k1.bag (ins_keep hi k1.keep)
    refine ⟨e', S', ?_⟩
    rw [forL_cons (e2 := [some sc, some (.ref 3), some (.ref 4), some r, v4, v5, v6, v7, v8, v9]) rfl, q1, ← q2]
    rfl
theorem make_ev {c n : Nat} {D : FM} {us : List U} {e : OD.Env} {S S2 : Sto} {ms : EM (List U)} (h : ms e S = .ok us S) (hn : us.length + 1 = n) (hD : D (.ref S.length :: us) (S ++ [.ins c []]) = .ok .non S2) : mMake c n D ms e S = .ok (.ref S.length) S2 := by
  unfold mMake
  rw [h]
  show (if us.length + 1 = n then (D (.ref S.length :: us) (S ++ [.ins c []])).bind (fun u S3 => match u with
    | .non => Rs.ok (U.ref S.length) S3
    | _ => .bad) else .bad) = _
  rw [if_pos hn, hD]
  rfl
theorem lawful : Lawful := fun ns hn _ => by
  obtain ⟨c0, c1, S, q1, hl, B, c2, c3, rfl⟩ := bag_ok ns hn
  have P1 := okNon_eq (prog_run c0 c1 c2 c3)
  have P2 := prog_sto c0 c1 c2 c3
  have P3 := prog_ins c0 c1 c2 c3
  obtain ⟨S1, eS1⟩ : ∃ S1, stoR (d_Program___init__ [.ref 4, .tup [.tup [.tup [], .tup []]]] [c0, c1, c2, c3, .ins 44 []]) = S1 := ⟨_, rfl⟩
  rw [eS1] at P1 P2 P3
  have a1 : App [c0, c1, c2, c3] S1 := by
    have e : S1 = [c0, c1, c2, c3] ++ S1.drop 4 := by rw [← P2, List.take_append_drop]
    rw [e]
    exact .app
  have m1 : mMake 44 2 d_Program___init__ (mCons (mTup (mCons (mTup (mCons (mTup mNil) (mCons (mTup mNil) mNil))) mNil)) mNil) [some (.scr ns), some (.ref 3), none, none, none, none, none, none, none, none] [c0, c1, c2, c3] = .ok (.ref 4) S1 := by
    refine make_ev (us := [.tup [.tup [.tup [], .tup []]]]) ?_ rfl P1
    simp only [OD.ev_bind, OD.ev_bindx, OD.ev_st, OD.ev_stx, OD.ev_nox, OD.ev_seq, OD.ev_seqr, OD.ev_seqx, OD.ev_lift, OD.ev_var, OD.ev_var1, OD.ev_k, OD.ev_op, OD.ev_op1, OD.ev_op2, OD.ev_un, OD.ev_un1, OD.ev_nil, OD.ev_cons, OD.ev_cons1, OD.ev_cons2, OD.ev_tup, OD.ev_tup1, OD.ev_lst, OD.ev_lst1, OD.ev_b, OD.ev_bl, OD.ev_b1, OD.ev_new, OD.ev_new1, OD.ev_m, OD.ev_m1, OD.ev_m2, OD.ev_and, OD.ev_andt, OD.ev_andf, OD.ev_or, OD.ev_ort, OD.ev_orf, OD.ev_not, OD.ev_not1, OD.ev_if, OD.ev_ift, OD.ev_iff, OD.ev_asb, OD.ev_asb1, OD.ev_tand, OD.ev_tandt, OD.ev_tandf, OD.ev_tor, OD.ev_tort, OD.ev_torf, OD.ev_tnot, OD.ev_tnot1, OD.ev_tru, OD.ev_tru1, OD.ev_o, OD.ev_is, OD.ev_is1, OD.ev_is2, OD.ev_ch, OD.ev_ch1, OD.ev_ch2, OD.ev_ch3t, OD.ev_ch3f, OD.ev_ch4, OD.ev_sl, OD.ev_sl1, OD.ev_sl2, OD.ev_sl3, OD.ev_on, OD.ev_os, OD.ev_os1, OD.ev_call, OD.ev_call1, OD.ev_asg, OD.ev_asg1, OD.ev_asgt, OD.ev_x, OD.ev_x1, OD.ev_r, OD.ev_r1, OD.ev_rn, OD.ev_skip, OD.ev_mseq, OD.ev_cont, OD.ev_break, OD.ev_ifs, OD.ev_ifst, OD.ev_ifsf, OD.ev_si, OD.ev_si1, OD.ev_si2, OD.ev_si3, OD.ev_si4, OD.ev_aug, OD.ev_aug0, OD.ev_aug1, OD.ev_aug2, OD.ev_fn, OD.ev_fnn, OD.ev_fnr, OD.ev_fnx, OD.ix_tup, OD.ix_lst, OD.ix_str, OD.at0, OD.at1, OD.at2, OD.at3, OD.len_tup, OD.len_scr, OD.len_lst, OD.int_int, OD.add_int, OD.add_tup, OD.sub_int, OD.eq_int, OD.eq_bl, OD.eq_str, OD.lt_int, OD.le_int, OD.gt_int, OD.ge_int, OD.mod_int, OD.div_int, OD.mul_int, OD.ev_wh, OD.ev_whf, OD.ev_wht, OD.ev_wen, OD.ev_wer, OD.ev_mst, OD.ev_mst1, OD.ev_msl, OD.ev_msl1, OD.ev_msl2, OD.ev_mscr, OD.ev_ent, OD.ev_ent1, OD.ev_zip, OD.ev_zip1, OD.ev_zip2, OD.ev_rg, OD.ev_lc, OD.ev_for, OD.ev_ext, OD.ev_ext1, List.getElem?_cons_zero, List.getElem?_cons_succ, List.set_cons_zero, List.set_cons_succ, List.replicate_succ, List.replicate_zero, List.map_cons, List.map_nil, List.length_cons, List.length_nil, List.cons_append, List.nil_append, List.append_nil, Nat.zero_add, Nat.reduceAdd, Nat.reduceSub, Nat.sub_self, ev_tup1 zl0, ev_tup1 zl1, ev_tup1 zl2]
  obtain ⟨e', S', q2⟩ := turns_ok (sc := .scr ns) (rngU 0 6) S1 none none none none none none none (B.app a1) P3
  have q2' : forL (.nm 3) bTN (rngU 0 (6 : Int).toNat) [some (.scr ns), some (.ref 3), some (.ref 4), none, none, none, none, none, none, none] S1 = .nx e' S' := q2
  refine ⟨S', ?_⟩
  have rg : cR1 [.int 6] S1 = .ok (.its (rngU 0 (6 : Int).toNat)) S1 := rg_run (by decide)
  have f1 : (mFor (msR1 (mCons (mK (.int 6)) mNil)) (.nm 3) bTN) [some (.scr ns), some (.ref 3), some (.ref 4), none, none, none, none, none, none, none] S1 = .nx e' S' := by
    rw [ev_for, ev_rg, ev_cons, ev_k, ev_bind, ev_cons1, ev_nil, ev_bind, ev_cons2, ev_bind, rg, ev_st, for_its]
    exact q2'
  have b1 : b_law = (mSeq (mAsg (.nm 1) (mCall 1 d__law_bag (mCons (mVar 0) mNil))) (mSeq (mAsg (.nm 2) (mMake 44 2 d_Program___init__ (mCons (mTup (mCons (mTup (mCons (mTup mNil) (mCons (mTup mNil) mNil))) mNil)) mNil))) (mSeq (mFor (msR1 (mCons (mK (.int 6)) mNil)) (.nm 3) bTN) (mRet (mK (.bl true)))))) := rfl
  have s0 : (mAsg (.nm 1) (mCall 1 d__law_bag (mCons (mVar 0) mNil))) [some (.scr ns), none, none, none, none, none, none, none, none, none] [] = .nx [some (.scr ns), some (.ref 3), none, none, none, none, none, none, none, none] [c0, c1, c2, c3] := by
    simp only [OD.ev_bind, OD.ev_bindx, OD.ev_st, OD.ev_stx, OD.ev_nox, OD.ev_seq, OD.ev_seqr, OD.ev_seqx, OD.ev_lift, OD.ev_var, OD.ev_var1, OD.ev_k, OD.ev_op, OD.ev_op1, OD.ev_op2, OD.ev_un, OD.ev_un1, OD.ev_nil, OD.ev_cons, OD.ev_cons1, OD.ev_cons2, OD.ev_tup, OD.ev_tup1, OD.ev_lst, OD.ev_lst1, OD.ev_b, OD.ev_bl, OD.ev_b1, OD.ev_new, OD.ev_new1, OD.ev_m, OD.ev_m1, OD.ev_m2, OD.ev_and, OD.ev_andt, OD.ev_andf, OD.ev_or, OD.ev_ort, OD.ev_orf, OD.ev_not, OD.ev_not1, OD.ev_if, OD.ev_ift, OD.ev_iff, OD.ev_asb, OD.ev_asb1, OD.ev_tand, OD.ev_tandt, OD.ev_tandf, OD.ev_tor, OD.ev_tort, OD.ev_torf, OD.ev_tnot, OD.ev_tnot1, OD.ev_tru, OD.ev_tru1, OD.ev_o, OD.ev_is, OD.ev_is1, OD.ev_is2, OD.ev_ch, OD.ev_ch1, OD.ev_ch2, OD.ev_ch3t, OD.ev_ch3f, OD.ev_ch4, OD.ev_sl, OD.ev_sl1, OD.ev_sl2, OD.ev_sl3, OD.ev_on, OD.ev_os, OD.ev_os1, OD.ev_call, OD.ev_call1, OD.ev_asg, OD.ev_asg1, OD.ev_asgt, OD.ev_x, OD.ev_x1, OD.ev_r, OD.ev_r1, OD.ev_rn, OD.ev_skip, OD.ev_mseq, OD.ev_cont, OD.ev_break, OD.ev_ifs, OD.ev_ifst, OD.ev_ifsf, OD.ev_si, OD.ev_si1, OD.ev_si2, OD.ev_si3, OD.ev_si4, OD.ev_aug, OD.ev_aug0, OD.ev_aug1, OD.ev_aug2, OD.ev_fn, OD.ev_fnn, OD.ev_fnr, OD.ev_fnx, OD.ix_tup, OD.ix_lst, OD.ix_str, OD.at0, OD.at1, OD.at2, OD.at3, OD.len_tup, OD.len_scr, OD.len_lst, OD.int_int, OD.add_int, OD.add_tup, OD.sub_int, OD.eq_int, OD.eq_bl, OD.eq_str, OD.lt_int, OD.le_int, OD.gt_int, OD.ge_int, OD.mod_int, OD.div_int, OD.mul_int, OD.ev_wh, OD.ev_whf, OD.ev_wht, OD.ev_wen, OD.ev_wer, OD.ev_mst, OD.ev_mst1, OD.ev_msl, OD.ev_msl1, OD.ev_msl2, OD.ev_mscr, OD.ev_ent, OD.ev_ent1, OD.ev_zip, OD.ev_zip1, OD.ev_zip2, OD.ev_rg, OD.ev_lc, OD.ev_for, OD.ev_ext, OD.ev_ext1, List.getElem?_cons_zero, List.getElem?_cons_succ, List.set_cons_zero, List.set_cons_succ, List.replicate_succ, List.replicate_zero, List.map_cons, List.map_nil, List.length_cons, List.length_nil, List.cons_append, List.nil_append, List.append_nil, Nat.zero_add, Nat.reduceAdd, Nat.reduceSub, Nat.sub_self, ev_call1 (us := [U.scr ns]) (n := 1) rfl, q1]
  have s1 : (mAsg (.nm 2) (mMake 44 2 d_Program___init__ (mCons (mTup (mCons (mTup (mCons (mTup mNil) (mCons (mTup mNil) mNil))) mNil)) mNil))) [some (.scr ns), some (.ref 3), none, none, none, none, none, none, none, none] [c0, c1, c2, c3] = .nx [some (.scr ns), some (.ref 3), some (.ref 4), none, none, none, none, none, none, none] S1 := by
    rw [ev_asg, m1]
    rfl
  unfold d_law
  rw [b1, ev_fn]
  show cFn ((mSeq (mAsg (.nm 1) (mCall 1 d__law_bag (mCons (mVar 0) mNil))) (mSeq (mAsg (.nm 2) (mMake 44 2 d_Program___init__ (mCons (mTup (mCons (mTup (mCons (mTup mNil) (mCons (mTup mNil) mNil))) mNil)) mNil))) (mSeq (mFor (msR1 (mCons (mK (.int 6)) mNil)) (.nm 3) bTN) (mRet (mK (.bl true)))))) [some (.scr ns), none, none, none, none, none, none, none, none, none] []) = _
  rw [ev_mseq, s0, ev_seq, ev_mseq, s1, ev_seq, ev_mseq, f1, ev_seq]
  rfl
end K01
open PySem PySem.W PySem.Calls PyProof.Rows
theorem PySem.Challenge.cw_oncedoors_k01_whole_kinds_holds : PySem.Challenge.rw_oncedoors_k01_whole_kinds.Holds :=
  K01.holds_of K01.lawful
end
