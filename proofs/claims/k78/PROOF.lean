import PyProof.Rows.All
import Wide.All
import OpenK.AllK
import Wide.FinOn
import HandS.ForMost
import HandS.ForExc
import HandS.CallSlots
import HandS.Walk
import HandS.EndTab
import HandS.Slots
import HandS.TupAny
import HandS.TupLe
import HandS.TupMul
import HandS.Style
import HandS.Conv
import HandS.IsInst
import HandS.Deep
import KE.KRevSl
import HandS.SortInts
import KE.GoesEnum
import HandS.TupSets
import HandS.SetFor
import HandS.SortRule
import KE.SortData
import PyProof.TupleOfSeq
import HandS.WordsExc
import HandS.RaiseMore
import PyProof.ReprRoads
import HandS.Star
import HandS.SlotsOwn
import PyProof.InstNe
import HandS.Lambda
import KE.SortKeyHeap
import KE.KExcSuper
import KE.KExcPX
import PyProof.ExcBaseAll.OverflowError
import KE.KTryMore
import KE.KExcIs
import KE.KIsAll
import KE.KDflt
import HandS.Head0
import HandS.Head1
import HandS.Head2
import HandS.HeadEnd
import HandS.HeadHook4
import HandS.HeadWalk
import PyProof.ExcBaseAll.ValueError
import PyProof.InstStoreFacts
import KE.KExcInit
import HandS.Zip
import PyProof.FactsAll.dict
import PyProof.Dict
import PyProof.EqKinds
import PyProof.StrLawsRepr
import KE.KStateDown
import PySem.Challenge.RW_behindbeside_k78_exceptions_of_both_part
set_option Elab.async false
set_option linter.all false
set_option maxRecDepth 100000
set_option autoImplicit false
set_option maxHeartbeats 4000000
namespace Qi
open PySem PySem.Spec PyProof.Rows L2
inductive D where
  | non
  | bl (b : Bool)
  | int (i : Int)
  | str (x : Str)
  | tup (l : List D)
  | lst (l : List D)
  | dic (l : List (D × D))
  | ref (n : Nat)
  | obj (c : Nat) (l : List D)
  | exc (c : Nat) (l : List D)
  | clo (f : Nat) (l : List D)
  | scr (l : List Int)
inductive Cell where
  | lst (l : List D)
  | dic (l : List (Key × D))
  | obj (c : Nat) (l : List D)
abbrev Sto := List Cell
inductive Res (α : Type) where
  | ok (a : α) (s : Sto)
  | exc (x : D) (s : Sto)
  | stuck
abbrev Sl := List (Option D)
/-- an expression's meaning; an argument list's; a test's -/
abbrev Ex := Sl → Sto → Res D
abbrev Ag := Sl → Sto → Res (List D)
abbrev Ts := Sl → Sto → Res Bool
inductive Fl where
  | next (σ : Sl)
  | brk (σ : Sl)
  | cnt (σ : Sl)
  | ret (d : D)
/-- a statement's meaning -/
abbrev Co := Sl → Sto → Res Fl
@[inline] def Res.bind {α β : Type} (r : Res α) (f : α → Sto → Res β) : Res β := match r with
  | .ok a s => f a s
  | .exc x s => .exc x s
  | .stuck => .stuck
/-- the written part, and where the classes stand -/
structure Kx where
  K : PySem.W.Frag
  cl : Nat → Addr
  tb : List (Addr × Str)
  me : Option (Addr × HO)
/-- not a table of code objects -/
def NT (o : HO) : Prop := ∀ ps, o ≠ .tbl ps
/-- .. nor an instance with a dict of its own, nor such a dict -/
structure Dt (o : HO) : Prop where
  nt : NT o
  ins : ∀ C dx fs, o ≠ .ins C dx fs
  own : ∀ x, o ≠ .own x
/-- not a table, nor the code object at a -/
def PL (a : Addr) (o : HO) : Prop := NT o ∧ ∀ q, o ≠ LamX.CodeO a q
theorem nt_lst {vs : List V} : NT (.lst vs) := fun _ z => nomatch z
theorem nt_tup {vs : List V} : NT (.tup vs) := fun _ z => nomatch z
theorem nt_dK {vs : List (Key × V)} : NT (.dK vs) := fun _ z => nomatch z
theorem nt_frz {o : Obj} {u : HO} : NT (.frz o u) := fun _ z => nomatch z
theorem nt_xd {vs : List (Str × V)} : NT (.xd vs) := fun _ z => nomatch z
theorem nt_ins {C dx : Addr} {fs : List (Str × V)} : NT (.ins C dx fs) := fun _ z => nomatch z
theorem nt_own {x : Addr} : NT (.own x) := fun _ z => nomatch z
theorem nt_sl {a C dx : Addr} {vs : List (Option V)} : NT (SlX.SlO a C dx vs) := fun _ z => by unfold SlX.SlO at z; cases z
theorem dt_lst {vs : List V} : Dt (.lst vs) := ⟨nt_lst, (fun _ _ _ z => nomatch z), (fun _ z => nomatch z)⟩
theorem dt_tup {vs : List V} : Dt (.tup vs) := ⟨nt_tup, (fun _ _ _ z => nomatch z), (fun _ z => nomatch z)⟩
theorem dt_dK {vs : List (Key × V)} : Dt (.dK vs) := ⟨nt_dK, (fun _ _ _ z => nomatch z), (fun _ z => nomatch z)⟩
theorem dt_frz {o : Obj} {u : HO} : Dt (.frz o u) := ⟨nt_frz, (fun _ _ _ z => nomatch z), (fun _ z => nomatch z)⟩
theorem dt_xd {vs : List (Str × V)} : Dt (.xd vs) := ⟨nt_xd, (fun _ _ _ z => nomatch z), (fun _ z => nomatch z)⟩
theorem dt_sl {a C dx : Addr} {vs : List (Option V)} : Dt (SlX.SlO a C dx vs) := ⟨nt_sl, (fun _ _ _ z => by unfold SlX.SlO at z; cases z), (fun _ z => by unfold SlX.SlO at z; cases z)⟩
theorem pl_lst {a : Addr} {vs : List V} : PL a (.lst vs) := ⟨nt_lst, fun _ z => nomatch z⟩
theorem pl_dK {a : Addr} {vs : List (Key × V)} : PL a (.dK vs) := ⟨nt_dK, fun _ z => nomatch z⟩
theorem pl_ins {a C dx : Addr} {fs : List (Str × V)} : PL a (.ins C dx fs) := ⟨nt_ins, fun _ z => nomatch z⟩
theorem pl_own {a x : Addr} : PL a (.own x) := ⟨nt_own, fun _ z => nomatch z⟩
theorem pl_xd {a : Addr} {fs : List (Str × V)} : PL a (.xd fs) := ⟨nt_xd, fun _ z => nomatch z⟩
theorem tabs_upd {T : List (Addr × Str)} {H : Hp} {a : Addr} {o o' : HO} (t : LamX.Tabs T H) (h : H a = some o) (p : PL a o) : LamX.Tabs T (upd H a o') := fun q hq => by
  obtain ⟨ps, h1, h2, h3⟩ := t q hq
  refine ⟨ps, ?_, h2, fun pos cv hc => ?_⟩
  · rw [upd_ne (ne_of h1 h (fun z => p.1 ps z.symm))]; exact h1
  · obtain ⟨c, e1, e2⟩ := h3 pos cv hc
    exact ⟨c, e1, by rw [upd_ne (fun z => by rw [z, h] at e2; exact p.2 q.2 (Option.some.inj e2))]; exact e2⟩
def excField : Nat → Option Str
  | 21 => some "place" | 22 => some "value" | 23 => some "value" | 24 => some "place" | 25 => some "four" | 27 => some "pair"
  | 28 => some "place" | 29 => some "value" | 30 => some "place" | 32 => some "most"
  | _ => none
/-- a caught exception that is kept -/
def ExV (cls : Value) (d : Option Addr) (a : Addr) : HO := .ext fun h => ∃ (oe : Obj) (vs : Array Value), h.get? a = some oe ∧ oe.cls = cls ∧ oe.dict = d ∧ oe.data = .fields vs
theorem nt_exv {cls : Value} {d : Option Addr} {a : Addr} : NT (ExV cls d a) := fun _ z => by unfold ExV at z; cases z
theorem dt_exv {cls : Value} {d : Option Addr} {a : Addr} : Dt (ExV cls d a) := ⟨nt_exv, (fun _ _ _ z => by unfold ExV at z; cases z), (fun _ z => by unfold ExV at z; cases z)⟩
structure Wo where
  K : Kx
  H : Hp
  F : Addr → Prop
  j : Nat → Addr
  N : Nat
def wr0 : Hp := fun _ => none
mutual
inductive RD (w : Wo) : D → V → Prop
  | non : RD w .non .non
  | bl (b : Bool) : RD w (.bl b) (.bl b)
  | int (i : Int) : RD w (.int i) (.int i)
  | str (x : Str) : RD w (.str x) (.str x)
  | tup {a : Addr} {vs : List V} {ds : List D} : Rd w.H a (.tup vs) → ¬ w.F a → ds.length ≤ sizeLine → RDs w ds vs → RD w (.tup ds) (.ref a)
  | tupK {a : Addr} {vs : List V} {ds : List D} : SqT w.K.K wr0 a vs → ds.length ≤ sizeLine → RDs w ds vs → RD w (.tup ds) (.ref a)
  | lst {a : Addr} {vs : List V} {ds : List D} : w.H a = some (.lst vs) → ¬ w.F a → ds.length ≤ sizeLine → RDs w ds vs → RD w (.lst ds) (.ref a)
  | scr {a : Addr} {ns : List Int} : Rd w.H a (.lst (ns.map V.int)) → ¬ w.F a → ns.length ≤ sizeLine → RD w (.scr ns) (.ref a)
  | scrK {a : Addr} {ns : List Int} : SqL w.K.K wr0 a (ns.map V.int) → ns.length ≤ sizeLine → RD w (.scr ns) (.ref a)
  | ref {n : Nat} : n < w.N → RD w (.ref n) (.ref (w.j n))
  | obj {a dx : Addr} {c : Nat} {vs : List V} {ds : List D} : w.H a = some (SlX.SlO a (w.K.cl c) dx (vs.map some)) → w.H dx = some (.xd []) → ¬ w.F a → ¬ w.F dx → RDs w ds vs → RD w (.obj c ds) (.ref a)
  | dic0 {a : Addr} : w.H a = some (.dK []) → ¬ w.F a → RD w (.dic []) (.ref a)
  | exc1 {a d : Addr} {c : Nat} {f : Str} {y : D} {v : V} : excField c = some f → w.H a = some (ExV (.ref (w.K.cl c)) (some d) a) → w.H d = some (.xd [(f, v)]) → ¬ w.F a → ¬ w.F d → RD w y v → RD w (.exc c [y]) (.ref a)
  | exc0 {a : Addr} {c : Nat} : excField c = none → w.H a = some (ExV (.ref (w.K.cl c)) none a) → ¬ w.F a → RD w (.exc c []) (.ref a)
inductive RDs (w : Wo) : List D → List V → Prop
  | nil : RDs w [] []
  | cons {d : D} {ds : List D} {v : V} {vs : List V} : RD w d v → RDs w ds vs → RDs w (d :: ds) (v :: vs)
end
structure Wo.Le (w w' : Wo) : Prop where
  k : w'.K.K = w.K.K
  kc : w'.K.cl = w.K.cl
  keep : ∀ a o, Dt o → w.H a = some o → ¬ w.F a → w'.H a = some o ∧ ¬ w'.F a
  ag : ∀ n, n < w.N → w'.j n = w.j n
  le : w.N ≤ w'.N
theorem Wo.Le.refl (w : Wo) : w.Le w := ⟨rfl, rfl, fun _ _ _ h f => ⟨h, f⟩, fun _ _ => rfl, Nat.le_refl _⟩
theorem Wo.Le.trans {a b c : Wo} (h : a.Le b) (h' : b.Le c) : a.Le c :=
  ⟨h'.k.trans h.k, h'.kc.trans h.kc, fun x o t e f => let z := h.keep x o t e f; h'.keep x o t z.1 z.2, fun n hn => (h'.ag n (Nat.lt_of_lt_of_le hn h.le)).trans (h.ag n hn), Nat.le_trans h.le h'.le⟩
theorem Wo.Le.rd {w w' : Wo} (le : w.Le w') {a : Addr} {u : HO} (t : Dt u) (h : Rd w.H a u) (f : ¬ w.F a) : Rd w'.H a u ∧ ¬ w'.F a := by
  rcases h with h | ⟨o, h⟩
  · exact ⟨.inl (le.keep _ _ t h f).1, (le.keep _ _ t h f).2⟩
  · exact ⟨.inr ⟨o, (le.keep _ _ dt_frz h f).1⟩, (le.keep _ _ dt_frz h f).2⟩
mutual
theorem RD.mono {w w' : Wo} (le : w.Le w') : ∀ {d : D} {v : V}, RD w d v → RD w' d v
  | _, _, .non => .non
  | _, _, .bl b => .bl b
  | _, _, .int i => .int i
  | _, _, .str x => .str x
  | _, _, .tup h f l r => .tup (le.rd dt_tup h f).1 (le.rd dt_tup h f).2 l (RDs.mono le r)
  | _, _, .tupK h l r => .tupK (by rw [le.k]; exact h) l (RDs.mono le r)
  | _, _, .lst h f l r => .lst (le.keep _ _ dt_lst h f).1 (le.keep _ _ dt_lst h f).2 l (RDs.mono le r)
  | _, _, .scr h f l => .scr (le.rd dt_lst h f).1 (le.rd dt_lst h f).2 l
  | _, _, .scrK h l => .scrK (by rw [le.k]; exact h) l
  | _, _, .ref (n := n) h => by
    have e := le.ag n h
    rw [← e]
    exact .ref (Nat.lt_of_lt_of_le h le.le)
  | _, _, .obj h1 h2 f1 f2 r => .obj (by rw [le.kc]; exact (le.keep _ _ dt_sl h1 f1).1) (le.keep _ _ dt_xd h2 f2).1 (le.keep _ _ dt_sl h1 f1).2 (le.keep _ _ dt_xd h2 f2).2 (RDs.mono le r)
  | _, _, .dic0 h f => .dic0 (le.keep _ _ dt_dK h f).1 (le.keep _ _ dt_dK h f).2
  | _, _, .exc1 hf h1 h2 f1 f2 r => .exc1 hf (by rw [le.kc]; exact (le.keep _ _ dt_exv h1 f1).1) (le.keep _ _ dt_xd h2 f2).1 (le.keep _ _ dt_exv h1 f1).2 (le.keep _ _ dt_xd h2 f2).2 (RD.mono le r)
  | _, _, .exc0 hf h1 f1 => .exc0 hf (by rw [le.kc]; exact (le.keep _ _ dt_exv h1 f1).1) (le.keep _ _ dt_exv h1 f1).2
theorem RDs.mono {w w' : Wo} (le : w.Le w') : ∀ {ds : List D} {vs : List V}, RDs w ds vs → RDs w' ds vs
  | _, _, .nil => .nil
  | _, _, .cons h r => .cons (RD.mono le h) (RDs.mono le r)
end
theorem RDs.length {w : Wo} : ∀ {ds : List D} {vs : List V}, RDs w ds vs → vs.length = ds.length
  | _, _, .nil => rfl
  | _, _, .cons _ r => by rw [List.length_cons, List.length_cons, RDs.length r]
theorem RDs.get {w : Wo} : ∀ {ds : List D} {vs : List V} {i : Nat} {d : D}, RDs w ds vs → ds[i]? = some d → ∃ v, vs[i]? = some v ∧ RD w d v
  | _, _, _, _, .nil, h => by simp at h
  | _, _, 0, _, .cons h _, e => by
    simp only [List.getElem?_cons_zero, Option.some.injEq] at e ⊢
    subst e
    exact ⟨_, rfl, h⟩
  | _, _, i + 1, _, .cons _ r, e => by
    simp only [List.getElem?_cons_succ] at e ⊢
    exact RDs.get r e
theorem RDs.getV {w : Wo} : ∀ {ds : List D} {vs : List V} {i : Nat} {v : V}, RDs w ds vs → vs[i]? = some v → ∃ d, ds[i]? = some d ∧ RD w d v
  | _, _, _, _, .nil, h => by simp at h
  | _, _, 0, _, .cons h _, e => by
    simp only [List.getElem?_cons_zero, Option.some.injEq] at e ⊢
    subst e
    exact ⟨_, rfl, h⟩
  | _, _, i + 1, _, .cons _ r, e => by
    simp only [List.getElem?_cons_succ] at e ⊢
    exact RDs.getV r e
theorem RDs.append {w : Wo} : ∀ {ds : List D} {vs : List V} {es : List D} {us : List V}, RDs w ds vs → RDs w es us → RDs w (ds ++ es) (vs ++ us)
  | _, _, _, _, .nil, s => s
  | _, _, _, _, .cons h r, s => .cons h (RDs.append r s)
theorem RDs.take {w : Wo} : ∀ {ds : List D} {vs : List V} (n : Nat), RDs w ds vs → RDs w (ds.take n) (vs.take n)
  | _, _, 0, _ => by simp only [List.take_zero]; exact .nil
  | _, _, _ + 1, .nil => by simp only [List.take_nil]; exact .nil
  | _, _, n + 1, .cons h r => by simp only [List.take_succ_cons]; exact .cons h (RDs.take n r)
theorem RDs.drop {w : Wo} : ∀ {ds : List D} {vs : List V} (n : Nat), RDs w ds vs → RDs w (ds.drop n) (vs.drop n)
  | _, _, 0, h => h
  | _, _, _ + 1, .nil => by simp only [List.drop_nil]; exact .nil
  | _, _, n + 1, .cons _ r => by simp only [List.drop_succ_cons]; exact RDs.drop n r
theorem RDs.set {w : Wo} {d : D} {v : V} (hd : RD w d v) : ∀ {ds : List D} {vs : List V} (n : Nat), RDs w ds vs → RDs w (ds.set n d) (vs.set n v)
  | _, _, _, .nil => .nil
  | _, _, 0, .cons _ r => .cons hd r
  | _, _, n + 1, .cons h r => .cons h (RDs.set hd n r)
theorem RDs.eraseIdx {w : Wo} : ∀ {ds : List D} {vs : List V} (n : Nat), RDs w ds vs → RDs w (ds.eraseIdx n) (vs.eraseIdx n)
  | _, _, _, .nil => .nil
  | _, _, 0, .cons _ r => r
  | _, _, n + 1, .cons h r => .cons h (RDs.eraseIdx n r)
theorem RDs.dropLast {w : Wo} {ds : List D} {vs : List V} (h : RDs w ds vs) : RDs w ds.dropLast vs.dropLast := by
  rw [List.dropLast_eq_take, List.dropLast_eq_take, h.length]
  exact h.take _
theorem RDs.reverse {w : Wo} : ∀ {ds : List D} {vs : List V}, RDs w ds vs → RDs w ds.reverse vs.reverse
  | _, _, .nil => .nil
  | _, _, .cons h r => by
    rw [List.reverse_cons, List.reverse_cons]
    exact (RDs.reverse r).append (.cons h .nil)
theorem RDs.one {w : Wo} {d : D} {v : V} (h : RD w d v) : RDs w [d] [v] := .cons h .nil
section
variable {w : Wo} {v : V}
theorem RD.of_non (h : RD w .non v) : v = .non := by cases h; rfl
theorem RD.of_bl {b : Bool} (h : RD w (.bl b) v) : v = .bl b := by cases h; rfl
theorem RD.of_int {i : Int} (h : RD w (.int i) v) : v = .int i := by cases h; rfl
theorem RD.of_str {x : Str} (h : RD w (.str x) v) : v = .str x := by cases h; rfl
theorem sqT_K {K : PySem.W.Frag} {H : Hp} {a : Addr} {vs : List V} (h : SqT K wr0 a vs) : SqT K H a vs := by
  rcases h with (h | ⟨_, h⟩) | h
  · cases h
  · cases h
  · exact .inr h
theorem sqL_K {K : PySem.W.Frag} {H : Hp} {a : Addr} {vs : List V} (h : SqL K wr0 a vs) : SqL K H a vs := by
  rcases h with (h | ⟨_, h⟩) | h
  · cases h
  · cases h
  · exact .inr h
theorem RD.of_tup {ds : List D} (h : RD w (.tup ds) v) : ∃ a vs, v = .ref a ∧ SqT w.K.K w.H a vs ∧ RDs w ds vs := by
  cases h with
  | tup h f l r => exact ⟨_, _, rfl, .inl h, r⟩
  | tupK h l r => exact ⟨_, _, rfl, sqT_K h, r⟩
theorem RD.len_tup {ds : List D} (h : RD w (.tup ds) v) : ds.length ≤ sizeLine := by
  cases h with
  | tup h f l r => exact l
  | tupK h l r => exact l
theorem RD.len_lst {ds : List D} (h : RD w (.lst ds) v) : ds.length ≤ sizeLine := by
  cases h with
  | lst h f l r => exact l
theorem RD.len_scr {ds : List Int} (h : RD w (.scr ds) v) : ds.length ≤ sizeLine := by
  cases h with
  | scr h f l => exact l
  | scrK h l => exact l
theorem RD.of_lst {ds : List D} (h : RD w (.lst ds) v) : ∃ a vs, v = .ref a ∧ w.H a = some (.lst vs) ∧ RDs w ds vs ∧ ¬ w.F a := by
  cases h with
  | lst h f l r => exact ⟨_, _, rfl, h, r, f⟩
theorem RD.of_scr {ns : List Int} (h : RD w (.scr ns) v) : ∃ a, v = .ref a ∧ SqL w.K.K w.H a (ns.map V.int) := by
  cases h with
  | scr h f l => exact ⟨_, rfl, .inl h⟩
  | scrK h l => exact ⟨_, rfl, sqL_K h⟩
end
/-- fixed while a def runs: what may not be touched, the heap at its entry, the store's size and places there -/
structure Gd where
  B : Addr → Prop
  H0 : Hp
  n0 : Nat
  j0 : Nat → Addr
/-- not frozen -/
def own : D → Bool
  | .clo 1 _ => false
  | _ => true
/-- slot i is linear, set, not frozen, and its object stands at a -/
def LinA (lin : Nat → Bool) (σ : Sl) (σV : L2.St) (i : Nat) (a : Addr) : Prop := lin i = true ∧ (∃ d, σ[i]? = some (some d) ∧ own d = true) ∧ σV[i]? = some (some (.ref a))
def FF (lin : Nat → Bool) (B : Addr → Prop) (j : Nat → Addr) (N : Nat) (σ : Sl) (σV : L2.St) (a : Addr) : Prop :=
  B a ∨ (∃ n, n < N ∧ j n = a) ∨ ∃ i, LinA lin σ σV i a
abbrev wo (K : Kx) (lin : Nat → Bool) (B : Addr → Prop) (j : Nat → Addr) (σ : Sl) (S : Sto) (σV : L2.St) (H : Hp) : Wo := ⟨K, H, FF lin B j S.length σ σV, j, S.length⟩
/-- a linear slot's value -/
inductive LV (w : Wo) : D → V → Prop
  | lst {a : Addr} {vs : List V} {ds : List D} : w.H a = some (.lst vs) → ds.length ≤ sizeLine → RDs w ds vs → LV w (.lst ds) (.ref a)
  | pin {a : Addr} {o : HO} : w.K.me = some (a, o) → NT o → w.H a = some o → LV w (.clo 0 []) (.ref a)
  | frz {ds : List D} {v : V} : RD w (.lst ds) v → LV w (.clo 1 [.lst ds]) v
/-- a cell of the store -/
inductive CV (w : Wo) : Cell → Addr → Prop
  | lst {a : Addr} {vs : List V} {ds : List D} : w.H a = some (.lst vs) → ds.length ≤ sizeLine → RDs w ds vs → CV w (.lst ds) a
  | dic {a : Addr} {kvs : List (Key × V)} {kds : List (Key × D)} : w.H a = some (.dK kvs) → kds.length ≤ sizeLine → kvs.map (·.1) = kds.map (·.1) → RDs w (kds.map (·.2)) (kvs.map (·.2)) → CV w (.dic kds) a
structure Rel (K : Kx) (lin : Nat → Bool) (g : Gd) (j : Nat → Addr) (σ : Sl) (S : Sto) (σV : L2.St) (H : Hp) : Prop where
  len : σ.length = σV.length
  inj : ∀ n m, n < S.length → m < S.length → j n = j m → n = m
  lc : ∀ i a n, LinA lin σ σV i a → n < S.length → j n ≠ a
  ll : ∀ i i' a, LinA lin σ σV i a → LinA lin σ σV i' a → i = i'
  oc : ∀ n, n < S.length → ¬ g.B (j n)
  ol : ∀ i a, LinA lin σ σV i a → ¬ g.B a
  trk : ∀ a, FF lin g.B j S.length σ σV a → ∃ o, H a = some o
  slots : ∀ i d, σ[i]? = some (some d) → ∃ v, σV[i]? = some (some v) ∧ (lin i = false → RD (wo K lin g.B j σ S σV H) d v) ∧ (lin i = true → LV (wo K lin g.B j σ S σV H) d v)
  cells : ∀ n c, S[n]? = some c → CV (wo K lin g.B j σ S σV H) c (j n)
  frame : ∀ a o, NT o → g.H0 a = some o → (∀ n, n < g.n0 → j n ≠ a) → H a = some o
  newc : ∀ n, g.n0 ≤ n → n < S.length → g.H0 (j n) = none
  newl : ∀ i a, LinA lin σ σV i a → g.H0 a = none
  n0 : g.n0 ≤ S.length
  ag : ∀ n, n < g.n0 → j n = g.j0 n
  dom : ∀ a o, g.H0 a = some o → ∃ o', H a = some o'
  tabs : LamX.Tabs K.tb H
theorem LV.mono {w w' : Wo} (le : w.Le w') {d : D} {v : V} (h : LV w d v) (k : ∀ a o, v = .ref a → own d = true → NT o → w.H a = some o → w'.H a = some o) (hm : w'.K.me = w.K.me := by rfl) : LV w' d v := by
  cases h with
  | pin h t e => exact .pin (hm.trans h) t (k _ _ rfl rfl t e)
  | frz h => exact .frz (h.mono le)
  | lst h l r => exact .lst (k _ _ rfl rfl nt_lst h) l (r.mono le)
theorem LV.ref {w : Wo} {d : D} {v : V} (h : LV w d v) : ∃ a, v = .ref a := by
  cases h with
  | pin h t e => exact ⟨_, rfl⟩
  | frz h => obtain ⟨a, _, e, _⟩ := h.of_lst; exact ⟨a, e⟩
  | lst h l r => exact ⟨_, rfl⟩
theorem CV.plain {w : Wo} {c : Cell} {a : Addr} (h : CV w c a) : ∃ o, w.H a = some o ∧ PL a o := by
  cases h with
  | lst h l r => exact ⟨_, h, pl_lst⟩
  | dic h l e r => exact ⟨_, h, pl_dK⟩
theorem CV.mono {w w' : Wo} (le : w.Le w') {c : Cell} {a : Addr} (h : CV w c a) (k : ∀ o, NT o → w.H a = some o → w'.H a = some o) : CV w' c a := by
  cases h with
  | lst h l r => exact .lst (k _ nt_lst h) l (r.mono le)
  | dic h l e r => exact .dic (k _ nt_dK h) l e (r.mono le)
section
variable {K : Kx} {lin : Nat → Bool} {g : Gd} {j : Nat → Addr} {σ : Sl} {S : Sto} {σV : L2.St} {H : Hp}
/-- a new object at p: the worlds -/
theorem le_alloc {B : Addr → Prop} {p : Addr} {o : HO} (hp : H p = none) : (wo K lin B j σ S σV H).Le (wo K lin B j σ S σV (upd H p o)) :=
  ⟨rfl, rfl, fun a o' _ h f => ⟨by show upd H p o a = _; rw [upd_ne (ne_of_none h hp)]; exact h, f⟩, fun _ _ => rfl, Nat.le_refl _⟩
theorem Rel.alloc {p : Addr} {o : HO} (R : Rel K lin g j σ S σV H) (hp : H p = none) : Rel K lin g j σ S σV (upd H p o) := by
  have k : ∀ a o', H a = some o' → upd H p o a = some o' := fun a o' h => by
    rw [upd_ne (ne_of_none h hp)]; exact h
  refine ⟨R.len, R.inj, R.lc, R.ll, R.oc, R.ol, fun a h => ?_, fun i d e => ?_, fun n c e => ?_, fun a o' t h1 h2 => k _ _ (R.frame a o' t h1 h2), R.newc, R.newl, R.n0, R.ag, fun a o' h => (R.dom a o' h).imp fun o2 e => k _ _ e, R.tabs.ext k⟩
  · obtain ⟨o', e⟩ := R.trk a h
    exact ⟨o', k _ _ e⟩
  · obtain ⟨v, ev, h1, h2⟩ := R.slots i d e
    exact ⟨v, ev, fun z => (h1 z).mono (le_alloc hp), fun z => (h2 z).mono (le_alloc hp) fun a o' _ _ _ h => k _ _ h⟩
  · exact (R.cells n c e).mono (le_alloc hp) fun o' _ h => k _ _ h
/-- a new object that nothing else may touch: p is forbidden from now on -/
def Gd.hold (g : Gd) (p : Addr) : Gd := { g with B := fun a => g.B a ∨ a = p }
theorem le_hold {p : Addr} {o : HO} (hp : H p = none) : (wo K lin g.B j σ S σV H).Le (wo K lin (g.hold p).B j σ S σV (upd H p o)) :=
  ⟨rfl, rfl, fun a o' _ h f => ⟨by show upd H p o a = _; rw [upd_ne (ne_of_none h hp)]; exact h, fun z => by
    rcases z with (z | z) | z | z
    · exact f (.inl z)
    · exact ne_of_none h hp z
    · exact f (.inr (.inl z))
    · exact f (.inr (.inr z))⟩, fun _ _ => rfl, Nat.le_refl _⟩
theorem Rel.hold {p : Addr} {o : HO} (R : Rel K lin g j σ S σV H) (hp : H p = none) : Rel K lin (g.hold p) j σ S σV (upd H p o) := by
  have k : ∀ a o', H a = some o' → upd H p o a = some o' := fun a o' h => by
    rw [upd_ne (ne_of_none h hp)]; exact h
  have nF : ∀ a, FF lin g.B j S.length σ σV a → a ≠ p := fun a h => by
    obtain ⟨o', e⟩ := R.trk a h
    exact ne_of_none e hp
  refine ⟨R.len, R.inj, R.lc, R.ll, fun n hn z => ?_, fun i a h z => ?_, fun a h => ?_, fun i d e => ?_, fun n c e => ?_, fun a o' t h1 h2 => k _ _ (R.frame a o' t h1 h2), R.newc, R.newl, R.n0, R.ag, fun a o' h => (R.dom a o' h).imp fun o2 e => k _ _ e, R.tabs.ext k⟩
  · rcases z with z | z
    · exact R.oc n hn z
    · exact nF _ (.inr (.inl ⟨n, hn, rfl⟩)) z
  · rcases z with z | z
    · exact R.ol i a h z
    · exact nF _ (.inr (.inr ⟨i, h⟩)) z
  · rcases h with (h | h) | h | h
    · obtain ⟨o', e⟩ := R.trk a (.inl h)
      exact ⟨o', k _ _ e⟩
    · subst h
      exact ⟨o, upd_same⟩
    · obtain ⟨o', e⟩ := R.trk a (.inr (.inl h))
      exact ⟨o', k _ _ e⟩
    · obtain ⟨o', e⟩ := R.trk a (.inr (.inr h))
      exact ⟨o', k _ _ e⟩
  · obtain ⟨v, ev, h1, h2⟩ := R.slots i d e
    exact ⟨v, ev, fun z => (h1 z).mono (le_hold hp), fun z => (h2 z).mono (le_hold hp) fun a o' _ _ _ h => k _ _ h⟩
  · exact (R.cells n c e).mono (le_hold hp) fun o' _ h => k _ _ h
/-- what was held is let go -/
theorem le_free {B B' : Addr → Prop} (h : ∀ a, B' a → B a) : (wo K lin B j σ S σV H).Le (wo K lin B' j σ S σV H) :=
  ⟨rfl, rfl, fun a o' _ e f => ⟨e, fun z => f (z.imp (h a) fun y => y)⟩, fun _ _ => rfl, Nat.le_refl _⟩
theorem Rel.free {B' : Addr → Prop} (R : Rel K lin g j σ S σV H) (h : ∀ a, B' a → g.B a) : Rel K lin { g with B := B' } j σ S σV H :=
  ⟨R.len, R.inj, R.lc, R.ll, fun n hn z => R.oc n hn (h _ z), fun i a l z => R.ol i a l (h _ z), fun a z => R.trk a (z.imp (h a) fun y => y), fun i d e => by
    obtain ⟨v, ev, h1, h2⟩ := R.slots i d e
    exact ⟨v, ev, fun z => (h1 z).mono (le_free h), fun z => (h2 z).mono (le_free h) fun a o' _ _ _ e => e⟩, fun n c e => (R.cells n c e).mono (le_free h) fun o' _ e => e, R.frame, R.newc, R.newl, R.n0, R.ag, R.dom, R.tabs⟩
end
end Qi
namespace Qi
open PySem PySem.Spec L2
structure Stp (j : Nat → Addr) (N : Nat) (H : Hp) (j' : Nat → Addr) (N' : Nat) (H' : Hp) : Prop where
  keep : ∀ a o, NT o → H a = some o → (∀ n, n < N → j n ≠ a) → H' a = some o
  ag : ∀ n, n < N → j' n = j n
  le : N ≤ N'
  new : ∀ n, N ≤ n → n < N' → H (j' n) = none
  dom : ∀ a o, H a = some o → ∃ o', H' a = some o'
theorem Stp.refl {j : Nat → Addr} {N : Nat} {H : Hp} : Stp j N H j N H := ⟨fun _ _ _ h _ => h, fun _ _ => rfl, Nat.le_refl _, fun n h1 h2 => absurd h2 (by omega), fun _ o h => ⟨o, h⟩⟩
theorem Stp.alloc {j : Nat → Addr} {N : Nat} {H : Hp} {p : Addr} {o : HO} (hp : H p = none) : Stp j N H j N (upd H p o) :=
  ⟨fun a o' _ h _ => by rw [upd_ne (ne_of_none h hp)]; exact h, fun _ _ => rfl, Nat.le_refl _, fun n h1 h2 => absurd h2 (by omega), fun a o' h => ⟨o', by rw [upd_ne (ne_of_none h hp)]; exact h⟩⟩
theorem Stp.trans {j j1 j2 : Nat → Addr} {N N1 N2 : Nat} {H H1 H2 : Hp} (a : Stp j N H j1 N1 H1) (b : Stp j1 N1 H1 j2 N2 H2) : Stp j N H j2 N2 H2 where
  keep := fun x o t h f => b.keep x o t (a.keep x o t h f) fun n hn => by
    by_cases hl : n < N
    · rw [a.ag n hl]; exact f n hl
    · intro e
      have := a.new n (by omega) hn
      rw [e, h] at this; cases this
  ag := fun n hn => (b.ag n (Nat.lt_of_lt_of_le hn a.le)).trans (a.ag n hn)
  le := Nat.le_trans a.le b.le
  new := fun n h1 h2 => by
    by_cases hl : n < N1
    · rw [b.ag n hl]; exact a.new n h1 hl
    · have z := b.new n (by omega) h2
      cases q : H (j2 n) with
      | none => rfl
      | some o =>
        obtain ⟨o', e⟩ := a.dom _ o q
        rw [e] at z; cases z
  dom := fun x o h => by
    obtain ⟨o', e⟩ := a.dom x o h
    exact b.dom x o' e
section
variable {K : Kx} {lin : Nat → Bool} {B : Addr → Prop} {j j' : Nat → Addr} {σ : Sl} {S S' : Sto} {σV : L2.St} {H H' : Hp}
theorem Stp.wle (s : Stp j S.length H j' S'.length H') : (wo K lin B j σ S σV H).Le (wo K lin B j' σ S' σV H') where
  k := rfl
  kc := rfl
  keep := fun a o t h f => ⟨s.keep a o t.nt h fun n hn e => f (.inr (.inl ⟨n, hn, e⟩)), fun z => by
    rcases z with z | ⟨n, hn, e⟩ | z
    · exact f (.inl z)
    · by_cases hl : n < S.length
      · exact f (.inr (.inl ⟨n, hl, by rw [← s.ag n hl]; exact e⟩))
      · have := s.new n (by omega) hn
        rw [e] at this
        have h' : H a = some o := h
        rw [h'] at this; cases this
    · exact f (.inr (.inr z))⟩
  ag := s.ag
  le := s.le
end
def RX (w : Wo) (x : D) (cls : Value) (dd : Option Addr) : Prop :=
  ∃ c fs, x = .exc c fs ∧ cls = .ref (w.K.cl c) ∧ match excField c with
    | some f => ∃ d y v, fs = [y] ∧ dd = some d ∧ w.H d = some (.xd [(f, v)]) ∧ ¬ w.F d ∧ RD w y v
    | none => fs = [] ∧ dd = none
/-- a value that may be read: any, or a linear slot's list -/
def RB (w : Wo) (d : D) (v : V) : Prop := RD w d v ∨ ∃ a vs ds, d = .lst ds ∧ v = .ref a ∧ w.H a = some (.lst vs) ∧ ds.length ≤ sizeLine ∧ RDs w ds vs ∧ ∀ n, n < w.N → w.j n ≠ a
/-- .. on the spot: a list may be any that stands now -/
def RL (w : Wo) (d : D) (v : V) : Prop := RD w d v ∨ ∃ a vs ds, d = .lst ds ∧ v = .ref a ∧ w.H a = some (.lst vs) ∧ ds.length ≤ sizeLine ∧ RDs w ds vs
theorem RB.rl {w : Wo} {d : D} {v : V} (h : RB w d v) : RL w d v := h.imp (fun y => y) fun ⟨a, vs, ds, e1, e2, e3, l, r, _⟩ => ⟨a, vs, ds, e1, e2, e3, l, r⟩
theorem RL.lst {w : Wo} {ds : List D} {v : V} (h : RL w (.lst ds) v) : ∃ a vs, v = .ref a ∧ w.H a = some (.lst vs) ∧ RDs w ds vs := by
  rcases h with h | ⟨a, vs, ds', e, rfl, h, l, r⟩
  · obtain ⟨a, vs, rfl, h, r, _⟩ := h.of_lst
    exact ⟨a, vs, rfl, h, r⟩
  · cases e
    exact ⟨a, vs, rfl, h, r⟩
theorem RL.len {w : Wo} {ds : List D} {v : V} (h : RL w (.lst ds) v) : ds.length ≤ sizeLine := by
  rcases h with h | ⟨a, vs, ds', e, rfl, h, l, r⟩
  · exact h.len_lst
  · cases e
    exact l
theorem RL.rd {w : Wo} {d : D} {v : V} (h : RL w d v) (n : ∀ ds, d ≠ .lst ds) : RD w d v := by
  rcases h with h | ⟨a, vs, ds', e, _⟩
  · exact h
  · exact absurd e (n ds')
/-- a cell that is a list, read on the spot -/
def rsvN (S : Sto) (n : Nat) : D := match S[n]? with
  | some (.lst l) => .lst l
  | _ => .ref n
def rsv (S : Sto) (d : D) : D := match d with
  | .ref n => rsvN S n
  | d => d
theorem RD.of_ref {w : Wo} {n : Nat} {v : V} (h : RD w (.ref n) v) : v = .ref (w.j n) ∧ n < w.N := by cases h with | ref h => exact ⟨rfl, h⟩
theorem RB.rsv {K : Kx} {lin : Nat → Bool} {g : Gd} {j : Nat → Addr} {σ : Sl} {S : Sto} {σV : L2.St} {H : Hp} {d : D} {v : V} (R : Rel K lin g j σ S σV H) (h : RB (wo K lin g.B j σ S σV H) d v) : RL (wo K lin g.B j σ S σV H) (rsv S d) v := by
  cases d with
  | ref n =>
    show RL _ (rsvN S n) v
    have h' := h
    rcases h with h | ⟨a, vs, ds', e, _⟩
    · obtain ⟨rfl, hn⟩ := h.of_ref
      cases q : S[n]? with
      | none =>
        have e : rsvN S n = .ref n := by unfold rsvN; rw [q]
        rw [e]; exact h'.rl
      | some c =>
        cases c with
        | lst l =>
          have e : rsvN S n = .lst l := by unfold rsvN; rw [q]
          rw [e]
          have hc := R.cells n _ q
          cases hc with
          | lst hH hl r => exact .inr ⟨_, _, _, rfl, rfl, hH, hl, r⟩
        | dic l =>
          have e : rsvN S n = .ref n := by unfold rsvN; rw [q]
          rw [e]; exact h'.rl
        | obj c l =>
          have e : rsvN S n = .ref n := by unfold rsvN; rw [q]
          rw [e]; exact h'.rl
    · cases e
  | _ => exact h.rl
structure Env1 where
  K : Kx
  lin : Nat → Bool
  W : WX
section
variable (Z : Env1) (g : Gd) (j : Nat → Addr) (σ : Sl) (S : Sto) (σV : L2.St) (H : Hp)
abbrev wz : Wo := wo Z.K Z.lin g.B j σ S σV H
abbrev RelZ : Prop := Rel Z.K Z.lin g j σ S σV H
/-- an exception gets out -/
def OutX (x : D) (S' : Sto) : Prop := ∀ j' cls dd H', RelZ Z g j' σ S' σV H' → Stp j S.length H j' S'.length H' → RX (wz Z g j' σ S' σV H') x cls dd → Z.W cls dd σV H'
def OutR {α β : Type} (rel : Wo → α → β → Prop) (Q : β → Hp → Prop) : Res α → Prop
  | .ok d S' => ∀ j' v H', RelZ Z g j' σ S' σV H' → Stp j S.length H j' S'.length H' → rel (wz Z g j' σ S' σV H') d v → Q v H'
  | .exc x S' => OutX Z g j σ S σV H x S'
  | .stuck => False
/-- .. a new list: held -/
def OutF (Q : VK) : Res D → Prop
  | .ok (.lst ds) S' => ∀ j' a vs H', H' a = some (.lst vs) → RelZ Z (g.hold a) j' σ S' σV H' → Stp j S.length H j' S'.length H' → ds.length ≤ sizeLine → RDs (wz Z (g.hold a) j' σ S' σV H') ds vs → H a = none → Q (.ref a) H'
  | .ok _ _ => False
  | .exc x S' => OutX Z g j σ S σV H x S'
  | .stuck => False
end
def RBool (_ : Wo) (a b : Bool) : Prop := a = b
def lE (Z : Env1) (m : Ex) : TE := fun σV H Q => ∃ g j σ S, RelZ Z g j σ S σV H ∧ OutR Z g j σ S σV H RD Q (m σ S)
def lB (Z : Env1) (m : Ex) : TE := fun σV H Q => ∃ g j σ S, RelZ Z g j σ S σV H ∧ OutR Z g j σ S σV H RB Q (m σ S)
def lF (Z : Env1) (m : Ex) : TE := fun σV H Q => ∃ g j σ S, RelZ Z g j σ S σV H ∧ OutF Z g j σ S σV H Q (m σ S)
def lA (Z : Env1) (m : Ag) : TA := fun σV H Q => ∃ g j σ S, RelZ Z g j σ S σV H ∧ OutR Z g j σ S σV H RDs Q (m σ S)
def lT (Z : Env1) (m : Ts) : TT := fun σV H Q => ∃ g j σ S, RelZ Z g j σ S σV H ∧ OutR Z g j σ S σV H RBool Q (m σ S)
abbrev DE (X : Cx) (Z : Env1) (e : Expr) (m : Ex) : Prop := PE X e (lE Z m)
abbrev DB (X : Cx) (Z : Env1) (e : Expr) (m : Ex) : Prop := PE X e (lB Z m)
abbrev DF (X : Cx) (Z : Env1) (e : Expr) (m : Ex) : Prop := PE X e (lF Z m)
abbrev DA (X : Cx) (Z : Env1) (es : List Expr) (m : Ag) : Prop := PA X es (lA Z m)
abbrev DT (X : Cx) (Z : Env1) (e : Expr) (m : Ts) : Prop := PT X e (lT Z m)
abbrev DW (X : Cx) (Z : Env1) (e : Expr) (m : Ts) : Prop := PW X e (lT Z m)
theorem PE.imp {X : Cx} {e : Expr} {t t' : TE} (h : PE X e t) (i : ∀ σ H Q, t' σ H Q → t σ H Q) : PE X e t' := ⟨fun pins s σ H Q I q => h.run pins s σ H Q I (i _ _ _ q)⟩
theorem PT.imp {X : Cx} {e : Expr} {t t' : TT} (h : PT X e t) (i : ∀ σ H Q, t' σ H Q → t σ H Q) : PT X e t' := ⟨fun pins s σ H Q I q => h.run pins s σ H Q I (i _ _ _ q)⟩
theorem PW.imp {X : Cx} {e : Expr} {t t' : TT} (h : PW X e t) (i : ∀ σ H Q, t' σ H Q → t σ H Q) : PW X e t' := ⟨fun wh pins s σ H Q I q => h.run wh pins s σ H Q I (i _ _ _ q)⟩
theorem PA.imp {X : Cx} {e : List Expr} {t t' : TA} (h : PA X e t) (i : ∀ σ H Q, t' σ H Q → t σ H Q) : PA X e t' := ⟨fun pos pins s σ H Q I q => h.run pos pins s σ H Q I (i _ _ _ q)⟩
theorem PS.imp {X : Cx} {e : Stmt} {t t' : TS} (h : PS X e t) (i : ∀ D σ H, t' D σ H → t D σ H) : PS X e t' := ⟨fun pins s σ H D I q => h.run pins s σ H D I (i _ _ _ q)⟩
theorem PSs.imp {X : Cx} {e : List Stmt} {t t' : TS} (h : PSs X e t) (i : ∀ D σ H, t' D σ H → t D σ H) : PSs X e t' := ⟨fun pins s σ H D I q => h.run pins s σ H D I (i _ _ _ q)⟩
section
variable {Z : Env1} {g : Gd} {j j' : Nat → Addr} {σ : Sl} {S S' : Sto} {σV : L2.St} {H H' : Hp} {α β : Type} {rel rel' : Wo → α → β → Prop}
theorem OutX.step {x : D} {S2 : Sto} (s : Stp j S.length H j' S'.length H') (h : OutX Z g j σ S σV H x S2) : OutX Z g j' σ S' σV H' x S2 :=
  fun j2 cls dd H2 R st rx => h j2 cls dd H2 R (s.trans st) rx
theorem OutR.step {Q : β → Hp → Prop} (s : Stp j S.length H j' S'.length H') : ∀ {r : Res α}, OutR Z g j σ S σV H rel Q r → OutR Z g j' σ S' σV H' rel Q r
  | .ok d S2, h => fun j2 v H2 R st rd => h j2 v H2 R (s.trans st) rd
  | .exc x S2, h => OutX.step s h
  | .stuck, h => h
theorem OutR.imp {Q Q' : β → Hp → Prop} (hQ : ∀ v H, Q v H → Q' v H) : ∀ {r : Res α}, OutR Z g j σ S σV H rel Q r → OutR Z g j σ S σV H rel Q' r
  | .ok d S2, h => fun j2 v H2 R st rd => hQ _ _ (h j2 v H2 R st rd)
  | .exc x S2, h => h
  | .stuck, h => h
/-- the heart: a meaning that goes on -/
theorem OutR.bind {γ δ : Type} {rel2 : Wo → γ → δ → Prop} {Q : δ → Hp → Prop} {Q' : β → Hp → Prop} {f : α → Sto → Res γ}
    (k : ∀ d S1 j1 v H1, RelZ Z g j1 σ S1 σV H1 → Stp j S.length H j1 S1.length H1 → rel (wz Z g j1 σ S1 σV H1) d v → OutR Z g j1 σ S1 σV H1 rel2 Q (f d S1) → Q' v H1) :
    ∀ {r : Res α}, OutR Z g j σ S σV H rel2 Q (r.bind f) → OutR Z g j σ S σV H rel Q' r
  | .ok d S1, h => fun j1 v H1 R st rd => k d S1 j1 v H1 R st rd (OutR.step st h)
  | .exc x S1, h => h
  | .stuck, h => h
theorem RB.mono {d : D} {v : V} (R : RelZ Z g j σ S σV H) (s : Stp j S.length H j' S'.length H') (h : RB (wz Z g j σ S σV H) d v) : RB (wz Z g j' σ S' σV H') d v := by
  rcases h with h | ⟨a, vs, ds, rfl, rfl, e, l, r, n⟩
  · exact .inl (h.mono s.wle)
  · refine .inr ⟨a, vs, ds, rfl, rfl, s.keep a _ nt_lst e n, l, r.mono s.wle, fun m hm z => ?_⟩
    by_cases hl : m < S.length
    · exact n m hl (by show j m = a; rw [← s.ag m hl]; exact z)
    · have q := s.new m (by have : ¬ m < S.length := hl; omega) hm
      have e' : H a = some (.lst vs) := e
      have z' : j' m = a := z
      rw [z', e'] at q; cases q
theorem RB.lst {w : Wo} {ds : List D} {v : V} (h : RB w (.lst ds) v) : ∃ a vs, v = .ref a ∧ w.H a = some (.lst vs) ∧ RDs w ds vs := by
  rcases h with h | ⟨a, vs, ds', e, rfl, h, l, r, n⟩
  · obtain ⟨a, vs, rfl, h, r, _⟩ := h.of_lst
    exact ⟨a, vs, rfl, h, r⟩
  · cases e
    exact ⟨a, vs, rfl, h, r⟩
theorem RB.len {w : Wo} {ds : List D} {v : V} (h : RB w (.lst ds) v) : ds.length ≤ sizeLine := by
  rcases h with h | ⟨a, vs, ds', e, rfl, h, l, r, n⟩
  · exact h.len_lst
  · cases e
    exact l
theorem RB.rd {w : Wo} {d : D} {v : V} (h : RB w d v) (n : ∀ ds, d ≠ .lst ds) : RD w d v := by
  rcases h with h | ⟨a, vs, ds', e, _⟩
  · exact h
  · exact absurd e (n ds')
end
theorem de_db {X : Cx} {Z : Env1} {e : Expr} {m : Ex} (h : DE X Z e m) : DB X Z e m := by
  refine PE.imp h fun σV H Q => ?_
  rintro ⟨g, j, σ, S, R, h⟩
  refine ⟨g, j, σ, S, R, ?_⟩
  cases e : m σ S with
  | ok d S' => rw [e] at h; exact fun j' v H' R' st rd => h j' v H' R' st (.inl rd)
  | exc x S' => rw [e] at h; exact h
  | stuck => rw [e] at h; exact h
theorem lE_lF {Z : Env1} {m : Ex} (hl : ∀ σ S d S', m σ S = .ok d S' → ∃ ds, d = .lst ds) {σV : L2.St} {H : Hp} {Q : VK} (h : lE Z m σV H Q) : lF Z m σV H Q := by
  obtain ⟨g, j, σ, S, R, h⟩ := h
  refine ⟨g, j, σ, S, R, ?_⟩
  cases e : m σ S with
  | ok d S' =>
    rw [e] at h
    obtain ⟨ds, rfl⟩ := hl _ _ _ _ e
    intro j' a vs H' ha R' st hlen rd hn
    have R2 : RelZ Z g j' σ S' σV H' := R'.free (B' := g.B) fun a z => .inl z
    have nF : ¬ FF Z.lin g.B j' S'.length σ σV a := fun z => by
      rcases z with z | ⟨n, hn, z⟩ | ⟨i, z⟩
      · obtain ⟨o, eo⟩ := R.trk a (.inl z)
        rw [hn] at eo; cases eo
      · exact R'.oc n hn (.inr z)
      · exact R'.ol i a z (.inr rfl)
    exact h j' (.ref a) H' R2 st (.lst ha nF hlen (rd.mono (le_free fun a z => .inl z)))
  | exc x S' => rw [e] at h; exact h
  | stuck => rw [e] at h; exact h
theorem df_de {X : Cx} {Z : Env1} {e : Expr} {m : Ex} (h : DF X Z e m) (hl : ∀ σ S d S', m σ S = .ok d S' → ∃ ds, d = .lst ds) : DE X Z e m := PE.imp h fun σV H Q q => lE_lF hl q
end Qi
namespace Qi
open PySem PySem.Spec L2
def xC (d : D) : Ex := fun _ S => .ok d S
def xV (i : Nat) : Ex := fun σ S => match σ[i]? with
  | some (some d) => .ok d S
  | _ => .stuck
def x1 (f : D → Sto → Res D) (a : Ex) : Ex := fun σ S => (a σ S).bind fun x S1 => f (rsv S1 x) S1
def x2 (f : D → D → Sto → Res D) (a b : Ex) : Ex := fun σ S => (a σ S).bind fun x S1 => (b σ S1).bind fun y S2 => f (rsv S2 x) (rsv S2 y) S2
def xL (f : List D → Sto → Res D) (a : Ag) : Ex := fun σ S => (a σ S).bind f
def aN : Ag := fun _ S => .ok [] S
def aC (a : Ex) (r : Ag) : Ag := fun σ S => (a σ S).bind fun x S1 => (r σ S1).bind fun xs S2 => .ok (x :: xs) S2
def asB : D → Sto → Res Bool
  | .bl b, S => .ok b S
  | _, _ => .stuck
/-- a value that is True or False, as a test -/
def tE (a : Ex) : Ts := fun σ S => (a σ S).bind asB
def tN (t : Ts) : Ts := fun σ S => (t σ S).bind fun b S1 => .ok (!b) S1
def tA (t u : Ts) : Ts := fun σ S => (t σ S).bind fun b S1 => if b = true then u σ S1 else .ok false S1
def tO (t u : Ts) : Ts := fun σ S => (t σ S).bind fun b S1 => if b = true then .ok true S1 else u σ S1
/-- and, or, not as values: all but the last True or False -/
def xA (a b : Ex) : Ex := fun σ S => (a σ S).bind fun x S1 => match x with
  | .bl true => b σ S1
  | .bl false => .ok (.bl false) S1
  | _ => .stuck
def xO (a b : Ex) : Ex := fun σ S => (a σ S).bind fun x S1 => match x with
  | .bl true => .ok (.bl true) S1
  | .bl false => b σ S1
  | _ => .stuck
def xN (a : Ex) : Ex := fun σ S => (a σ S).bind fun x S1 => match x with
  | .bl b => .ok (.bl (!b)) S1
  | _ => .stuck
def xI (t : Ts) (a b : Ex) : Ex := fun σ S => (t σ S).bind fun c S1 => if c = true then a σ S1 else b σ S1
def szOk (n : Nat) : Bool := decide (n ≤ 16777216)
theorem szOk_le {n : Nat} (h : szOk n = true) : n ≤ sizeLine := by
  rw [sizeLine_eq]
  exact of_decide_eq_true h
section
variable {X : Cx} {Z : Env1} {a b e : Expr} {ma mb : Ex} {pos : Pos}
theorem lE_ok {m : Ex} {d : D} {v : V} {σV : L2.St} {H : Hp} {Q : VK} (h : lE Z m σV H Q) (hm : ∀ σ S, m σ S = .ok d S) (hd : ∀ w, RD w d v) : Q v H := by
  obtain ⟨g, j, σ, S, R, h⟩ := h
  rw [hm] at h
  exact h j v H R Stp.refl (hd _)
theorem de_c {d : D} {v : V} (h : PE X e (tC v)) (hd : ∀ w, RD w d v) : DE X Z e (xC d) := PE.imp h fun _ _ _ q => lE_ok q (fun _ _ => rfl) hd
theorem de_int {i : Int} {k : Nat} : DE X Z (.Constant (.int i) k pos) (xC (.int i)) := de_c pe_int fun _ => .int i
theorem de_bl {i : Bool} {k : Nat} : DE X Z (.Constant (.bool i) k pos) (xC (.bl i)) := de_c pe_bl fun _ => .bl i
theorem de_non {k : Nat} : DE X Z (.Constant .none k pos) (xC .non) := de_c pe_non fun _ => .non
theorem de_str {i : Str} {k : Nat} : DE X Z (.Constant (.str i) k pos) (xC (.str i)) := de_c pe_str fun _ => .str i
theorem de_v {i : Nat} (h : PE X e (tVar i)) (hl : Z.lin i = false) : DE X Z e (xV i) := by
  refine PE.imp h fun σV H Q => ?_
  rintro ⟨g, j, σ, S, R, h⟩
  unfold xV at h
  cases e1 : σ[i]? with
  | none => rw [e1] at h; exact h.elim
  | some o =>
    rw [e1] at h
    cases o with
    | none => exact h.elim
    | some d =>
      obtain ⟨v, ev, h1, h2⟩ := R.slots i d e1
      exact ⟨v, ev, h j v H R Stp.refl (h1 hl)⟩
/-- a linear name, read on the spot -/
def xVL (i : Nat) : Ex := fun σ S => match σ[i]? with
  | some (some (.lst l)) => .ok (.lst l) S
  | _ => .stuck
theorem xVL_ok {i : Nat} {σ : Sl} {S : Sto} : (∃ l, σ[i]? = some (some (.lst l)) ∧ xVL i σ S = .ok (.lst l) S) ∨ xVL i σ S = .stuck := by
  unfold xVL
  cases q : σ[i]? with
  | none => exact .inr rfl
  | some o =>
    cases o with
    | none => exact .inr rfl
    | some d =>
      cases d with
      | lst l => exact .inl ⟨l, rfl, rfl⟩
      | _ => exact .inr rfl
def Pr2 (K : PySem.W.Frag) (r : R2) (f : D → D → Sto → Res D) : Prop := ∀ (Z : Env1) (g : Gd) (j : Nat → Addr) (σ : Sl) (S : Sto) (σV : L2.St) (H : Hp) (x y : V) (d e : D) (Q : VK), Z.K.K = K → RelZ Z g j σ S σV H →
  RL (wz Z g j σ S σV H) d x → RL (wz Z g j σ S σV H) e y → OutR Z g j σ S σV H RD Q (f d e S) → r x y H Q
def Pr2F (K : PySem.W.Frag) (r : R2) (f : D → D → Sto → Res D) : Prop := ∀ (Z : Env1) (g : Gd) (j : Nat → Addr) (σ : Sl) (S : Sto) (σV : L2.St) (H : Hp) (x y : V) (d e : D) (Q : VK), Z.K.K = K → RelZ Z g j σ S σV H →
  RL (wz Z g j σ S σV H) d x → RL (wz Z g j σ S σV H) e y → OutF Z g j σ S σV H Q (f d e S) → r x y H Q
def Pr1 (K : PySem.W.Frag) (r : V → Hp → VK → Prop) (f : D → Sto → Res D) : Prop := ∀ (Z : Env1) (g : Gd) (j : Nat → Addr) (σ : Sl) (S : Sto) (σV : L2.St) (H : Hp) (x : V) (d : D) (Q : VK), Z.K.K = K → RelZ Z g j σ S σV H →
  RL (wz Z g j σ S σV H) d x → OutR Z g j σ S σV H RD Q (f d S) → r x H Q
def Pr1F (K : PySem.W.Frag) (r : V → Hp → VK → Prop) (f : D → Sto → Res D) : Prop := ∀ (Z : Env1) (g : Gd) (j : Nat → Addr) (σ : Sl) (S : Sto) (σV : L2.St) (H : Hp) (x : V) (d : D) (Q : VK), Z.K.K = K → RelZ Z g j σ S σV H →
  RL (wz Z g j σ S σV H) d x → OutF Z g j σ S σV H Q (f d S) → r x H Q
section
variable {g : Gd} {j j' : Nat → Addr} {σ : Sl} {S S' : Sto} {σV : L2.St} {H H' : Hp}
theorem OutF.step {Q : VK} (s : Stp j S.length H j' S'.length H') (hs : ∀ a, H' a = none → H a = none) : ∀ {r : Res D}, OutF Z g j σ S σV H Q r → OutF Z g j' σ S' σV H' Q r
  | .ok (.lst ds) S2, h => fun j2 a vs H2 ha R st hl rd hn => h j2 a vs H2 ha R (s.trans st) hl rd (hs a hn)
  | .exc x S2, h => OutX.step s h
  | .stuck, h => h
  | .ok .non _, h => h
  | .ok (.bl _) _, h => h
  | .ok (.int _) _, h => h
  | .ok (.str _) _, h => h
  | .ok (.tup _) _, h => h
  | .ok (.dic _) _, h => h
  | .ok (.ref _) _, h => h
  | .ok (.obj _ _) _, h => h
  | .ok (.exc _ _) _, h => h
  | .ok (.clo _ _) _, h => h
  | .ok (.scr _) _, h => h
theorem Stp.back (s : Stp j S.length H j' S'.length H') : ∀ a, H' a = none → H a = none := fun a h => by
  cases q : H a with
  | none => rfl
  | some o =>
    obtain ⟨o', e⟩ := s.dom a o q
    rw [h] at e; cases e
theorem OutF.bind {α β : Type} {rel : Wo → α → β → Prop} {Q : VK} {Q' : β → Hp → Prop} {f : α → Sto → Res D}
    (k : ∀ d S1 j1 v H1, RelZ Z g j1 σ S1 σV H1 → Stp j S.length H j1 S1.length H1 → rel (wz Z g j1 σ S1 σV H1) d v → OutF Z g j1 σ S1 σV H1 Q (f d S1) → Q' v H1) :
    ∀ {r : Res α}, OutF Z g j σ S σV H Q (r.bind f) → OutR Z g j σ S σV H rel Q' r
  | .ok d S1, h => fun j1 v H1 R st rd => k d S1 j1 v H1 R st rd (OutF.step st st.back h)
  | .exc x S1, h => h
  | .stuck, h => h
end
theorem l2_of {K : PySem.W.Frag} {r : R2} {f : D → D → Sto → Res D} (pr : Pr2 K r f) (hK : Z.K.K = K) {σV : L2.St} {H : Hp} {Q : VK} (h : lE Z (x2 f ma mb) σV H Q) : tOp r (lB Z ma) (lB Z mb) σV H Q := by
  obtain ⟨g, j, σ, S, R, h⟩ := h
  exact ⟨g, j, σ, S, R, OutR.bind (fun d S1 j1 v H1 R1 s1 rd h1 => ⟨g, j1, σ, S1, R1, OutR.bind (fun e S2 j2 u H2 R2 s2 re h2 => pr Z g j2 σ S2 σV H2 v u _ _ Q hK R2 ((rd.mono R1 s2).rsv R2) (re.rsv R2) h2) h1⟩) h⟩
theorem l2_ofF {K : PySem.W.Frag} {r : R2} {f : D → D → Sto → Res D} (pr : Pr2F K r f) (hK : Z.K.K = K) {σV : L2.St} {H : Hp} {Q : VK} (h : lF Z (x2 f ma mb) σV H Q) : tOp r (lB Z ma) (lB Z mb) σV H Q := by
  obtain ⟨g, j, σ, S, R, h⟩ := h
  exact ⟨g, j, σ, S, R, OutF.bind (fun d S1 j1 v H1 R1 s1 rd h1 => ⟨g, j1, σ, S1, R1, OutF.bind (fun e S2 j2 u H2 R2 s2 re h2 => pr Z g j2 σ S2 σV H2 v u _ _ Q hK R2 ((rd.mono R1 s2).rsv R2) (re.rsv R2) h2) h1⟩) h⟩
theorem l1_of {K : PySem.W.Frag} {r : V → Hp → VK → Prop} {f : D → Sto → Res D} (pr : Pr1 K r f) (hK : Z.K.K = K) {σV : L2.St} {H : Hp} {Q : VK} (h : lE Z (x1 f ma) σV H Q) : tUn r (lB Z ma) σV H Q := by
  obtain ⟨g, j, σ, S, R, h⟩ := h
  exact ⟨g, j, σ, S, R, OutR.bind (fun d S1 j1 v H1 R1 s1 rd h1 => pr Z g j1 σ S1 σV H1 v _ Q hK R1 (rd.rsv R1) h1) h⟩
theorem l1_ofF {K : PySem.W.Frag} {r : V → Hp → VK → Prop} {f : D → Sto → Res D} (pr : Pr1F K r f) (hK : Z.K.K = K) {σV : L2.St} {H : Hp} {Q : VK} (h : lF Z (x1 f ma) σV H Q) : tUn r (lB Z ma) σV H Q := by
  obtain ⟨g, j, σ, S, R, h⟩ := h
  exact ⟨g, j, σ, S, R, OutF.bind (fun d S1 j1 v H1 R1 s1 rd h1 => pr Z g j1 σ S1 σV H1 v _ Q hK R1 (rd.rsv R1) h1) h⟩
theorem de_op {op : Operator} {r : R2} {f : D → D → Sto → Res D} (pr : Pr2 X.K r f) (ho : OpR X (binaryOp op) r) (ha : DB X Z a ma) (hb : DB X Z b mb) (hK : Z.K.K = X.K := by rfl) : DE X Z (.BinOp a op b pos) (x2 f ma mb) :=
  PE.imp (pe_op ho ha hb) fun _ _ _ q => l2_of pr hK q
theorem df_op {op : Operator} {r : R2} {f : D → D → Sto → Res D} (pr : Pr2F X.K r f) (ho : OpR X (binaryOp op) r) (ha : DB X Z a ma) (hb : DB X Z b mb) (hK : Z.K.K = X.K := by rfl) : DF X Z (.BinOp a op b pos) (x2 f ma mb) :=
  PE.imp (pe_op ho ha hb) fun _ _ _ q => l2_ofF pr hK q
theorem de_cmp {op : CmpOp} {r : R2} {f : D → D → Sto → Res D} (pr : Pr2 X.K r f) (ho : OpR X (compareOp op) r) (ha : DB X Z a ma) (hb : DB X Z b mb) (hm : behindInMarks op b = false) (hK : Z.K.K = X.K := by rfl) : DE X Z (.Compare a [op] [b] pos) (x2 f ma mb) :=
  PE.imp (pe_cmpR ho ha hb hm) fun _ _ _ q => l2_of pr hK q
theorem de_un {op : UnaryOp} {r : V → Hp → VK → Prop} {f : D → Sto → Res D} (pr : Pr1 X.K r f) (ho : UnR X (unaryOp op) r) (ha : DB X Z a ma) (hK : Z.K.K = X.K := by rfl) : DE X Z (.UnaryOp op a pos) (x1 f ma) :=
  PE.imp (pe_un ho ha) fun _ _ _ q => l1_of pr hK q
theorem lT_of {σV : L2.St} {H : Hp} {Q : Bool → Hp → Prop} {m : Ex} (h : lT Z (tE m) σV H Q) : tTest (lE Z m) σV H Q := by
  obtain ⟨g, j, σ, S, R, h⟩ := h
  refine ⟨g, j, σ, S, R, OutR.bind (fun d S1 j1 v H1 R1 s1 rd h1 => ?_) h⟩
  cases d with
  | bl b => exact ⟨b, rd.of_bl, h1 j1 b H1 R1 Stp.refl rfl⟩
  | _ => exact h1.elim
theorem lT_B {σV : L2.St} {H : Hp} {Q : Bool → Hp → Prop} {m : Ex} (h : lT Z (tE m) σV H Q) : tB (lE Z m) σV H Q := lT_of h
theorem dt_val {m : Ex} (h : DE X Z e m) (he : ∀ whole, isTrue e X.env whole = (do let v ← whole; standAt e.pos; holding [v] (truthy v)) := by intro _; rfl) : DT X Z e (tE m) :=
  PT.imp (pt_val h he) fun _ _ _ q => lT_B q
theorem tTest_l2 {K : PySem.W.Frag} {r : R2} {f : D → D → Sto → Res D} (pr : Pr2 K r f) (hK : Z.K.K = K) {σV : L2.St} {H : Hp} {Q : Bool → Hp → Prop} (h : tTest (lE Z (x2 f ma mb)) σV H Q) : tTest (tOp r (lB Z ma) (lB Z mb)) σV H Q := l2_of pr hK h
theorem dt_cmp {op : CmpOp} {r : R2} {f : D → D → Sto → Res D} (pr : Pr2 X.K r f) (ho : OpR X (compareOp op) r) (ha : DB X Z a ma) (hb : DB X Z b mb) (hm : behindInMarks op b = false) (hK : Z.K.K = X.K := by rfl) : DT X Z (.Compare a [op] [b] pos) (tE (x2 f ma mb)) :=
  PT.imp (pt_cmpR ho ha hb hm) fun _ _ _ q => tTest_l2 pr hK (lT_of q)
theorem dt_not {t : Ts} (h : DT X Z a t) : DT X Z (.UnaryOp .Not a pos) (tN t) := PT.imp (pt_not h) fun σV H Q => by
  rintro ⟨g, j, σ, S, R, h⟩
  refine ⟨g, j, σ, S, R, OutR.bind (fun d S1 j1 v H1 R1 s1 rd h1 => ?_) h⟩
  cases (show d = v from rd)
  exact h1 j1 _ H1 R1 Stp.refl rfl
theorem dw_and1 {t : Ts} (h : DT X Z a t) : DW X Z (.BoolOp .And [a] pos) t := pw_and1 h
theorem dw_or1 {t : Ts} (h : DT X Z a t) : DW X Z (.BoolOp .Or [a] pos) t := pw_or1 h
theorem dw_and {t u : Ts} {rest : List Expr} (ha : DT X Z a t) (hb : DW X Z (.BoolOp .And (b :: rest) pos) u) : DW X Z (.BoolOp .And (a :: b :: rest) pos) (tA t u) := PW.imp (pw_and ha hb) fun σV H Q => by
  rintro ⟨g, j, σ, S, R, h⟩
  refine ⟨g, j, σ, S, R, OutR.bind (fun d S1 j1 v H1 R1 s1 rd h1 => ?_) h⟩
  cases (show d = v from rd)
  cases d with
  | true => rw [if_pos rfl] at h1 ⊢; exact ⟨g, j1, σ, S1, R1, h1⟩
  | false => rw [if_neg Bool.false_ne_true] at h1 ⊢; exact h1 j1 _ H1 R1 Stp.refl rfl
theorem dw_or {t u : Ts} {rest : List Expr} (ha : DT X Z a t) (hb : DW X Z (.BoolOp .Or (b :: rest) pos) u) : DW X Z (.BoolOp .Or (a :: b :: rest) pos) (tO t u) := PW.imp (pw_or ha hb) fun σV H Q => by
  rintro ⟨g, j, σ, S, R, h⟩
  refine ⟨g, j, σ, S, R, OutR.bind (fun d S1 j1 v H1 R1 s1 rd h1 => ?_) h⟩
  cases (show d = v from rd)
  cases d with
  | false => rw [if_neg Bool.false_ne_true] at h1 ⊢; exact ⟨g, j1, σ, S1, R1, h1⟩
  | true => rw [if_pos rfl] at h1 ⊢; exact h1 j1 _ H1 R1 Stp.refl rfl
theorem dt_w {t : Ts} (h : DW X Z e t) : DT X Z e t := PW.pt h
theorem de_one {op : BoolOp} (h : DE X Z a ma) : DE X Z (.BoolOp op [a] pos) ma := pe_one h
theorem de_and {rest : List Expr} (ha : DE X Z a ma) (hb : DE X Z (.BoolOp .And (b :: rest) pos) mb) : DE X Z (.BoolOp .And (a :: b :: rest) pos) (xA ma mb) := PE.imp (pe_and ha hb) fun σV H Q => by
  rintro ⟨g, j, σ, S, R, h⟩
  refine ⟨g, j, σ, S, R, OutR.bind (fun d S1 j1 v H1 R1 s1 rd h1 => ?_) h⟩
  cases d with
  | bl c =>
    refine ⟨c, rd.of_bl, ?_⟩
    cases c with
    | true => rw [if_pos rfl]; exact ⟨g, j1, σ, S1, R1, h1⟩
    | false => rw [if_neg Bool.false_ne_true]; exact h1 j1 _ H1 R1 Stp.refl (.bl _)
  | _ => exact h1.elim
theorem de_or {rest : List Expr} (ha : DE X Z a ma) (hb : DE X Z (.BoolOp .Or (b :: rest) pos) mb) : DE X Z (.BoolOp .Or (a :: b :: rest) pos) (xO ma mb) := PE.imp (pe_or ha hb) fun σV H Q => by
  rintro ⟨g, j, σ, S, R, h⟩
  refine ⟨g, j, σ, S, R, OutR.bind (fun d S1 j1 v H1 R1 s1 rd h1 => ?_) h⟩
  cases d with
  | bl c =>
    refine ⟨c, rd.of_bl, ?_⟩
    cases c with
    | false => rw [if_neg Bool.false_ne_true]; exact ⟨g, j1, σ, S1, R1, h1⟩
    | true => rw [if_pos rfl]; exact h1 j1 _ H1 R1 Stp.refl (.bl _)
  | _ => exact h1.elim
theorem de_not (ha : DE X Z a ma) : DE X Z (.UnaryOp .Not a pos) (xN ma) := PE.imp (pe_not ha) fun σV H Q => by
  rintro ⟨g, j, σ, S, R, h⟩
  refine ⟨g, j, σ, S, R, OutR.bind (fun d S1 j1 v H1 R1 s1 rd h1 => ?_) h⟩
  cases d with
  | bl c => exact ⟨c, rd.of_bl, h1 j1 _ H1 R1 Stp.refl (.bl _)⟩
  | _ => exact h1.elim
theorem de_if {c : Expr} {t : Ts} (hc : DT X Z c t) (ha : DE X Z a ma) (hb : DE X Z b mb) : DE X Z (.IfExp c a b pos) (xI t ma mb) := PE.imp (pe_ifExp hc ha hb) fun σV H Q => by
  rintro ⟨g, j, σ, S, R, h⟩
  refine ⟨g, j, σ, S, R, OutR.bind (fun d S1 j1 v H1 R1 s1 rd h1 => ?_) h⟩
  cases (show d = v from rd)
  cases d with
  | true => rw [if_pos rfl] at h1 ⊢; exact ⟨g, j1, σ, S1, R1, h1⟩
  | false => rw [if_neg Bool.false_ne_true] at h1 ⊢; exact ⟨g, j1, σ, S1, R1, h1⟩
theorem db_if {c : Expr} {t : Ts} (hc : DT X Z c t) (ha : DB X Z a ma) (hb : DB X Z b mb) : DB X Z (.IfExp c a b pos) (xI t ma mb) := PE.imp (pe_ifExp hc ha hb) fun σV H Q => by
  rintro ⟨g, j, σ, S, R, h⟩
  refine ⟨g, j, σ, S, R, OutR.bind (fun d S1 j1 v H1 R1 s1 rd h1 => ?_) h⟩
  cases (show d = v from rd)
  cases d with
  | true => rw [if_pos rfl] at h1 ⊢; exact ⟨g, j1, σ, S1, R1, h1⟩
  | false => rw [if_neg Bool.false_ne_true] at h1 ⊢; exact ⟨g, j1, σ, S1, R1, h1⟩
theorem df_if {c : Expr} {t : Ts} (hc : DT X Z c t) (ha : DF X Z a ma) (hb : DF X Z b mb) : DF X Z (.IfExp c a b pos) (xI t ma mb) := PE.imp (pe_ifExp hc ha hb) fun σV H Q => by
  rintro ⟨g, j, σ, S, R, h⟩
  refine ⟨g, j, σ, S, R, OutF.bind (fun d S1 j1 v H1 R1 s1 rd h1 => ?_) h⟩
  cases (show d = v from rd)
  cases d with
  | true => rw [if_pos rfl] at h1 ⊢; exact ⟨g, j1, σ, S1, R1, h1⟩
  | false => rw [if_neg Bool.false_ne_true] at h1 ⊢; exact ⟨g, j1, σ, S1, R1, h1⟩
theorem da_nil : DA X Z [] aN := PA.imp pa_nil fun σV H Q => by
  rintro ⟨g, j, σ, S, R, h⟩
  exact h j _ H R Stp.refl .nil
theorem da_cons {es : List Expr} {r : Ag} (ha : DE X Z e ma) (hr : DA X Z es r) (hs : starEach (e :: es) X.env = (false, eval e X.env) :: starEach es X.env := by rfl) : DA X Z (e :: es) (aC ma r) := PA.imp (pa_cons ha hr hs) fun σV H Q => by
  rintro ⟨g, j, σ, S, R, h⟩
  refine ⟨g, j, σ, S, R, OutR.bind (fun d S1 j1 v H1 R1 s1 rd h1 => ?_) h⟩
  refine ⟨g, j1, σ, S1, R1, OutR.bind (fun ds S2 j2 vs H2 R2 s2 rds h2 => ?_) h1⟩
  exact h2 j2 _ H2 R2 Stp.refl (.cons (rd.mono s2.wle) rds)
section
variable {g : Gd} {j : Nat → Addr} {σ : Sl} {S : Sto} {σV : L2.St} {H : Hp}
theorem notF (R : RelZ Z g j σ S σV H) {p : Addr} (hp : H p = none) : ¬ FF Z.lin g.B j S.length σ σV p := fun z => by
  obtain ⟨o, e⟩ := R.trk p z
  rw [hp] at e; cases e
/-- a new tuple -/
theorem out_tup {Q : VK} {ds : List D} {vs : List V} (R : RelZ Z g j σ S σV H) (hl : ds.length ≤ sizeLine) (r : RDs (wz Z g j σ S σV H) ds vs) (h : OutR Z g j σ S σV H RD Q (.ok (.tup ds) S)) {p : Addr} (hp : H p = none) : Q (.ref p) (upd H p (.tup vs)) :=
  h j _ _ (R.alloc hp) (Stp.alloc hp) (.tup (.inl upd_same) (notF R hp) hl (r.mono (le_alloc hp)))
theorem out_lst {Q : VK} {ds : List D} {vs : List V} (R : RelZ Z g j σ S σV H) (hl : ds.length ≤ sizeLine) (r : RDs (wz Z g j σ S σV H) ds vs) (h : OutR Z g j σ S σV H RD Q (.ok (.lst ds) S)) {p : Addr} (hp : H p = none) : Q (.ref p) (upd H p (.lst vs)) :=
  h j _ _ (R.alloc hp) (Stp.alloc hp) (.lst upd_same (notF R hp) hl (r.mono (le_alloc hp)))
theorem out_lstF {Q : VK} {ds : List D} {vs : List V} (R : RelZ Z g j σ S σV H) (hl : ds.length ≤ sizeLine) (r : RDs (wz Z g j σ S σV H) ds vs) (h : OutF Z g j σ S σV H Q (.ok (.lst ds) S)) {p : Addr} (hp : H p = none) : Q (.ref p) (upd H p (.lst vs)) :=
  h j p vs _ upd_same (R.hold hp) (Stp.alloc hp) hl (r.mono (le_hold hp)) hp
end
theorem small_len {n : Nat} (h : n ≤ 1000) : n ≤ sizeLine := by
  rw [sizeLine_eq]; omega
end
end Qi
namespace Qi
open PySem PySem.Spec L2
def okd : Nat → D → Bool
  | _, .non => true
  | _, .bl _ => true
  | _, .int _ => true
  | _, .str x => PyData.strOk x
  | n + 1, .tup l => l.all (okd n)
  | n + 1, .lst l => l.all (okd n)
  | _, _ => false
mutual
def toPy : D → PyData
  | .non => .none
  | .bl b => .bool b
  | .int i => .int i
  | .str x => .str x
  | .tup l => .tuple (toPys l)
  | .lst l => .list (toPys l)
  | .dic [] => .dict []
  | _ => .none
def toPys : List D → List PyData
  | [] => []
  | d :: r => toPy d :: toPys r
end
mutual
def deq : D → D → Bool
  | .non, .non => true
  | .bl a, .bl b => a == b
  | .bl a, .int j => (if a then 1 else 0) == j
  | .int i, .bl b => i == (if b then 1 else 0)
  | .int i, .int j => i == j
  | .str x, .str y => x == y
  | .tup xs, .tup ys => deqs xs ys
  | .lst xs, .lst ys => deqs xs ys
  | _, _ => false
def deqs : List D → List D → Bool
  | [], [] => true
  | x :: xs, y :: ys => deq x y && deqs xs ys
  | _, _ => false
end
theorem okd_tup {n : Nat} {l : List D} (h : okd n (.tup l) = true) : ∃ m, n = m + 1 ∧ l.all (okd m) = true := by
  cases n with
  | zero => simp [okd] at h
  | succ m => exact ⟨m, rfl, by simpa [okd] using h⟩
theorem okd_lst {n : Nat} {l : List D} (h : okd n (.lst l) = true) : ∃ m, n = m + 1 ∧ l.all (okd m) = true := by
  cases n with
  | zero => simp [okd] at h
  | succ m => exact ⟨m, rfl, by simpa [okd] using h⟩
mutual
theorem RD.dp {w : Wo} : ∀ {d : D} {v : V} {n : Nat}, RD w d v → okd n d = true → Dp w.K.K w.H v (toPy d)
  | _, _, n, .dic0 _ _, h => by cases n <;> simp [okd] at h
  | _, _, _, .non, _ => .non
  | _, _, _, .bl b, _ => .bl b
  | _, _, _, .int i, _ => .int i
  | _, _, _, .str x, _ => .str x
  | _, _, _, .tup h f l r, k => by
    obtain ⟨m, _, k'⟩ := okd_tup k
    exact .tup (.inl h) (RDs.dp r k')
  | _, _, _, .tupK h l r, k => by
    obtain ⟨m, _, k'⟩ := okd_tup k
    exact .tup (sqT_K h) (RDs.dp r k')
  | _, _, _, .lst h f l r, k => by
    obtain ⟨m, _, k'⟩ := okd_lst k
    exact .lst (.of h) (RDs.dp r k')
  | _, _, n, .scr h f l, k => by cases n <;> simp [okd] at k
  | _, _, n, .scrK h l, k => by cases n <;> simp [okd] at k
  | _, _, n, .ref h, k => by cases n <;> simp [okd] at k
  | _, _, n, .obj .., k => by cases n <;> simp [okd] at k
  | _, _, n, .exc1 .., k => by cases n <;> simp [okd] at k
  | _, _, n, .exc0 .., k => by cases n <;> simp [okd] at k
theorem RDs.dp {w : Wo} : ∀ {ds : List D} {vs : List V} {n : Nat}, RDs w ds vs → ds.all (okd n) = true → DpAll w.K.K w.H vs (toPys ds)
  | _, _, _, .nil, _ => .nil
  | _, _, _, .cons h r, k => by
    rw [List.all_cons, Bool.and_eq_true] at k
    exact .cons (RD.dp h k.1) (RDs.dp r k.2)
end
theorem RL.dp {w : Wo} {d : D} {v : V} {n : Nat} (h : RL w d v) (k : okd n d = true) : Dp w.K.K w.H v (toPy d) := by
  rcases h with h | ⟨a, vs, ds, rfl, rfl, e, _, r⟩
  · exact h.dp k
  · obtain ⟨m, _, k'⟩ := okd_lst k
    exact .lst (.of e) (r.dp k')
mutual
theorem lay_toPy : ∀ {n : Nat} {d : D}, okd n d = true → (toPy d).canLay0 = true ∧ (toPy d).depth ≤ n
  | n, .non, _ => by simp [toPy, PyData.canLay0, PyData.depth]
  | n, .bl _, _ => by simp [toPy, PyData.canLay0, PyData.depth]
  | n, .int _, _ => by simp [toPy, PyData.canLay0, PyData.depth]
  | n, .str x, h => by
    have h' : PyData.strOk x = true := by cases n <;> simpa [okd] using h
    simp [toPy, PyData.canLay0, PyData.depth, h']
  | n, .tup l, h => by
    obtain ⟨m, rfl, k⟩ := okd_tup h
    obtain ⟨h1, h2⟩ := lay_toPys k
    simp only [toPy, PyData.canLay0, PyData.depth]
    exact ⟨h1, by omega⟩
  | n, .lst l, h => by
    obtain ⟨m, rfl, k⟩ := okd_lst h
    obtain ⟨h1, h2⟩ := lay_toPys k
    simp only [toPy, PyData.canLay0, PyData.depth]
    exact ⟨h1, by omega⟩
  | n, .dic _, h => by cases n <;> simp [okd] at h
  | n, .ref _, h => by cases n <;> simp [okd] at h
  | n, .obj _ _, h => by cases n <;> simp [okd] at h
  | n, .exc _ _, h => by cases n <;> simp [okd] at h
  | n, .clo _ _, h => by cases n <;> simp [okd] at h
  | n, .scr _, h => by cases n <;> simp [okd] at h
theorem lay_toPys : ∀ {n : Nat} {l : List D}, l.all (okd n) = true → PyData.canLayAll0 (toPys l) = true ∧ PyData.depthAll (toPys l) ≤ n
  | n, [], _ => by simp [toPys, PyData.canLayAll0, PyData.depthAll]
  | n, d :: r, h => by
    rw [List.all_cons, Bool.and_eq_true] at h
    obtain ⟨h1, h2⟩ := lay_toPy h.1
    obtain ⟨h3, h4⟩ := lay_toPys h.2
    simp only [toPys, PyData.canLayAll0, PyData.depthAll, h1, h3]
    exact ⟨rfl, by omega⟩
end
theorem shaped_toPy {d : D} (h : okd 64 d = true) : SeqAt.shaped (toPy d) = true := by
  obtain ⟨h1, h2⟩ := lay_toPy h
  unfold SeqAt.shaped
  rw [h1, decide_eq_true h2]; rfl
def isDat : D → Bool
  | .non => true | .bl _ => true | .int _ => true | .str _ => true | .tup _ => true | .lst _ => true
  | _ => false
theorem okd_dat {n : Nat} {d : D} (h : okd n d = true) : isDat d = true := by
  cases d <;> cases n <;> simp [okd, isDat] at h ⊢
mutual
theorem eqv_toPy : ∀ {n m : Nat} (d e : D), okd n d = true → okd m e = true → PyData.eqv (toPy d) (toPy e) = deq d e
  | n, m, .tup xs, e, h, h' => by
    obtain ⟨n', rfl, k⟩ := okd_tup h
    have he := okd_dat h'
    cases e with
    | tup ys =>
      obtain ⟨m', rfl, k'⟩ := okd_tup h'
      simp only [toPy, PyData.eqv, deq]
      exact eqv_toPys xs ys k k'
    | non => simp [toPy, PyData.eqv, deq]
    | bl _ => simp [toPy, PyData.eqv, deq]
    | int _ => simp [toPy, PyData.eqv, deq]
    | str _ => simp [toPy, PyData.eqv, deq]
    | lst _ => simp [toPy, PyData.eqv, deq]
    | _ => simp [isDat] at he
  | n, m, .lst xs, e, h, h' => by
    obtain ⟨n', rfl, k⟩ := okd_lst h
    have he := okd_dat h'
    cases e with
    | lst ys =>
      obtain ⟨m', rfl, k'⟩ := okd_lst h'
      simp only [toPy, PyData.eqv, deq]
      exact eqv_toPys xs ys k k'
    | non => simp [toPy, PyData.eqv, deq]
    | bl _ => simp [toPy, PyData.eqv, deq]
    | int _ => simp [toPy, PyData.eqv, deq]
    | str _ => simp [toPy, PyData.eqv, deq]
    | tup _ => simp [toPy, PyData.eqv, deq]
    | _ => simp [isDat] at he
  | n, m, .non, e, h, h' => by
    have he := okd_dat h'
    cases e <;> first | (simp [isDat] at he; done) | simp [toPy, PyData.eqv, deq]
  | n, m, .bl _, e, h, h' => by
    have he := okd_dat h'
    cases e <;> first | (simp [isDat] at he; done) | simp [toPy, PyData.eqv, deq]
  | n, m, .int _, e, h, h' => by
    have he := okd_dat h'
    cases e <;> first | (simp [isDat] at he; done) | simp [toPy, PyData.eqv, deq]
  | n, m, .str _, e, h, h' => by
    have he := okd_dat h'
    cases e <;> first | (simp [isDat] at he; done) | simp [toPy, PyData.eqv, deq]
  | n, m, .dic _, _, h, _ => by cases n <;> simp [okd] at h
  | n, m, .ref _, _, h, _ => by cases n <;> simp [okd] at h
  | n, m, .obj _ _, _, h, _ => by cases n <;> simp [okd] at h
  | n, m, .exc _ _, _, h, _ => by cases n <;> simp [okd] at h
  | n, m, .clo _ _, _, h, _ => by cases n <;> simp [okd] at h
  | n, m, .scr _, _, h, _ => by cases n <;> simp [okd] at h
theorem eqv_toPys : ∀ {n m : Nat} (xs ys : List D), xs.all (okd n) = true → ys.all (okd m) = true → PyData.eqvAll (toPys xs) (toPys ys) = deqs xs ys
  | _, _, [], [], _, _ => by simp [toPys, PyData.eqvAll, deqs]
  | _, _, [], _ :: _, _, _ => by simp [toPys, PyData.eqvAll, deqs]
  | _, _, _ :: _, [], _, _ => by simp [toPys, PyData.eqvAll, deqs]
  | _, _, x :: xs, y :: ys, h, h' => by
    rw [List.all_cons, Bool.and_eq_true] at h h'
    simp only [toPys, PyData.eqvAll, deqs]
    rw [eqv_toPy x y h.1 h'.1, eqv_toPys xs ys h.2 h'.2]
end
end Qi
namespace Qi
open PySem PySem.Spec PyProof.Rows L2
theorem tuple_mul1W (l : Addr) (items : Array Value) (n : Nat) (dd : Option Addr) (sl : Array (Option Value)) (u : Tok) :
    Meets (Builtin.«tuple.__mul__» ⟨[.ref l, .int 1 u], []⟩) (fun _ R s => s.heap.get? l = some { cls := .type "tuple", dict := dd, data := .seq items n, slots := sl } ∧
      R (.ok (.ret (Value.ref l))) s) :=
  .of_wp fun prog w A R s h => by
    obtain ⟨hp, g, d, tk, os⟩ := s
    obtain ⟨hl, h⟩ := h
    have f1 := AutoSeq1.idx_int
    have c0 : (decide ((1 : Int) < -(2 ^ 63)) || decide ((1 : Int) ≥ 2 ^ 63)) = false := by decide
    have c1 : (items.isEmpty || (1 : Int) == 1) = true := by simp
    wp_walk using wpAny_loadPart' hl
    repeat (first
      | (refine wpAny_ite_false (decide_eq_false (by rw [c0]; exact Bool.false_ne_true)) ?_; wp_walk using wpAny_loadPart' hl)
      | (refine wpAny_ite_true (decide_eq_true (by rw [c1])) ?_; wp_walk using wpAny_loadPart' hl))
    exact ⟨_, rfl, h⟩
theorem tuple_mul0W (l : Addr) (items : Array Value) (n : Nat) (dd : Option Addr) (sl : Array (Option Value)) (x : Int) (u : Tok) (c0 : (decide (x < -(2 ^ 63)) || decide (x ≥ 2 ^ 63)) = false) (c1 : (items.isEmpty || x == 1) = false) (c2 : (decide (x ≤ 0) || items.isEmpty) = true) :
    Meets (Builtin.«tuple.__mul__» ⟨[.ref l, .int x u], []⟩) (fun _ R s => s.heap.get? l = some { cls := .type "tuple", dict := dd, data := .seq items n, slots := sl } ∧
      R (.ok (.ret (Value.ref s.heap.objs.size))) { s with heap := s.heap.push { cls := Value.type "tuple", data := Data.seq #[] }, toks := s.toks }) :=
  .of_wp fun prog w A R s h => by
    obtain ⟨hp, g, d, tk, os⟩ := s
    obtain ⟨hl, h⟩ := h
    have f1 := AutoSeq1.idx_int
    wp_walk using wpAny_loadPart' hl
    repeat (first
      | (refine wpAny_ite_false (decide_eq_false (by rw [c0]; exact Bool.false_ne_true)) ?_; wp_walk using wpAny_loadPart' hl)
      | (refine wpAny_ite_false (decide_eq_false (by rw [c1]; exact Bool.false_ne_true)) ?_; wp_walk using wpAny_loadPart' hl)
      | (refine wpAny_ite_true (decide_eq_true (by rw [c2])) ?_; wp_walk using wpAny_loadPart' hl))
    exact ⟨_, rfl, h⟩
def rRep1T (K : PySem.W.Frag) : R2 := fun x y H Q => ∃ l xs, x = .ref l ∧ y = .int 1 ∧ SqT K H l xs ∧ Q (.ref l) H
def rRep0T (K : PySem.W.Frag) : R2 := fun x y H Q => ∃ l k xs, x = .ref l ∧ y = .int k ∧ SqT K H l xs ∧ xs ≠ [] ∧ -1000 ≤ k ∧ k ≤ 0 ∧ ∀ p, H p = none → Q (.ref p) (upd H p (.tup []))
section
variable {X : Cx}
theorem op_rep1T : OpR X (binaryOp .Mult) (rRep1T X.K) := by
  intro pins s σ H x y v u Q I rx ry h
  obtain ⟨l, xs, rfl, rfl, hT, q⟩ := h
  cases rx
  obtain ⟨t, rfl⟩ := ry
  obtain ⟨its, r, ⟨⟨cls, dd, data, sl⟩, ho, hc, n, hd⟩, hs⟩ := I.tuple hT
  simp only at hc hd
  subst hc hd
  exact wpAny_binaryOp_repeat_ref (T := "tuple") (U := "int") (by decide) ⟨_, ho, rfl⟩ (fun s' => typeIs_int s' 1 t) noFill_tuple_mul F.fills_int_mul F.slot_int_rmul repeat_tuple F.slot_int_index.lookup
    (call_meets F.slot_int_rmul (typeIs_int s 1 t) F.entry_int_rmul (F.args_int_rmul_2 _ _) (int_rmul_tuple 1 t l its.toArray n dd sl)
      ⟨ho, rfl, ⟨_, ho, rfl⟩, call_meets F.slot_tuple_mul ⟨_, ho, rfl⟩ F.entry_tuple_mul (F.args_tuple_mul_2 _ _) (tuple_mul1W l its.toArray n dd sl t) ⟨ho, .ref l, H, I, rfl, q⟩⟩)
theorem op_rep0T : OpR X (binaryOp .Mult) (rRep0T X.K) := by
  intro pins s σ H x y v u Q I rx ry h
  obtain ⟨l, k, xs, rfl, rfl, hT, hne, h1, h2, q⟩ := h
  cases rx
  obtain ⟨t, rfl⟩ := ry
  obtain ⟨its, r, ⟨⟨cls, dd, data, sl⟩, ho, hc, n, hd⟩, hs⟩ := I.tuple hT
  simp only at hc hd
  subst hc hd
  have hle : its.length = xs.length := r.length.symm
  have hn : its ≠ [] := fun e => hne (by
    rw [e] at hle
    exact List.eq_nil_of_length_eq_zero hle.symm)
  have hi : its.toArray.isEmpty = false := by
    cases its with
    | nil => exact absurd rfl hn
    | cons a b => rfl
  have c0 : (decide (k < -(2 ^ 63)) || decide (k ≥ 2 ^ 63)) = false := by
    rw [decide_eq_false (by omega), decide_eq_false (by omega)] <;> rfl
  have c1 : (its.toArray.isEmpty || k == 1) = false := by
    rw [hi, Bool.false_or]
    exact beq_eq_false_iff_ne.mpr (by omega)
  have c2 : (decide (k ≤ 0) || its.toArray.isEmpty) = true := by
    rw [decide_eq_true h2]; rfl
  refine wpAny_binaryOp_repeat_ref (T := "tuple") (U := "int") (by decide) ⟨_, ho, rfl⟩ (fun s' => typeIs_int s' k t) noFill_tuple_mul F.fills_int_mul F.slot_int_rmul repeat_tuple F.slot_int_index.lookup
    (call_meets F.slot_int_rmul (typeIs_int s k t) F.entry_int_rmul (F.args_int_rmul_2 _ _) (int_rmul_tuple k t l its.toArray n dd sl)
      ⟨ho, rfl, ⟨_, ho, rfl⟩, call_meets F.slot_tuple_mul ⟨_, ho, rfl⟩ F.entry_tuple_mul (F.args_tuple_mul_2 _ _) (tuple_mul0W l its.toArray n dd sl k t c0 c1 c2) ⟨ho, ?_⟩⟩)
  refine ⟨.ref s.heap.objs.size, _, I.laid (t' := s.toks) (o := .tup []) (fun b ob q => Heap.get?_push_of_some _ q) (Nat.le_refl _) ?_, rfl, q _ (I.hok.fresh (Nat.le_refl _))⟩
  exact ⟨Nat.zero_le _, _, .nil, IsTup.new _ _⟩
end
end Qi
namespace Qi
open PySem PySem.Spec L2
variable {X : Cx} {K : PySem.W.Frag}
def oAdd : D → D → Sto → Res D
  | .int a, .int b, S => .ok (.int (a + b)) S
  | .str a, .str b, S => if szOk (a.length + b.length) = true then .ok (.str (a ++ b)) S else .stuck
  | .tup a, .tup b, S => if szOk (a.length + b.length) = true then .ok (.tup (a ++ b)) S else .stuck
  | .lst a, .lst b, S => if szOk (a.length + b.length) = true then .ok (.lst (a ++ b)) S else .stuck
  | _, _, _ => .stuck
def rAddS : R2 := fun x y H Q => ∃ i j, x = .str i ∧ y = .str j ∧ i.length + j.length ≤ sizeLine ∧ Q (.str (i ++ j)) H
def rAddA (K : PySem.W.Frag) : R2 := fun x y H Q => rI0 (fun i j => .int (i + j)) x y H Q ∨ rAddS x y H Q ∨ rCatA K x y H Q ∨ rCat x y H Q
theorem op_addA : OpR X (binaryOp .Add) (rAddA X.K) := op_add.or (op_add_str.or (op_catA.or op_cat))
theorem pr_add : Pr2 K (rAddA K) oAdd := by
  intro Z g j σ S σV H x y d e Q hK R hd he h
  cases d with
  | int a =>
    cases e with
    | int b =>
      rw [(hd.rd (by intro _ z; cases z)).of_int, (he.rd (by intro _ z; cases z)).of_int]
      exact .inl ⟨a, b, rfl, rfl, h j _ H R Stp.refl (.int _)⟩
    | _ => exact h.elim
  | str a =>
    cases e with
    | str b =>
      rw [(hd.rd (by intro _ z; cases z)).of_str, (he.rd (by intro _ z; cases z)).of_str]
      simp only [oAdd] at h
      split at h
      · rename_i hz
        exact .inr (.inl ⟨a, b, rfl, rfl, szOk_le hz, h j _ H R Stp.refl (.str _)⟩)
      · exact h.elim
    | _ => exact h.elim
  | tup a =>
    cases e with
    | tup b =>
      have hd := hd.rd (by intro _ z; cases z)
      have he := he.rd (by intro _ z; cases z)
      obtain ⟨p, vs, rfl, hs, r⟩ := hd.of_tup
      obtain ⟨q, us, rfl, hs', r'⟩ := he.of_tup
      simp only [oAdd] at h
      split at h
      · rename_i hz
        have l1 := r.length
        have l2 := r'.length
        subst hK
        refine .inr (.inr (.inl ⟨p, q, vs, us, rfl, rfl, hs, hs', by rw [l1, l2]; exact szOk_le hz, fun e0 => ?_, fun _ e0 => ?_, fun _ _ t ht => ?_⟩))
        · subst e0
          cases r
          exact h j _ H R Stp.refl he
        · subst e0
          cases r'
          rw [List.append_nil] at h
          exact h j _ H R Stp.refl hd
        · exact out_tup R (by rw [List.length_append]; exact szOk_le hz) (r.append r') h ht
      · exact h.elim
    | _ => exact h.elim
  | lst a =>
    cases e with
    | lst b =>
      obtain ⟨p, vs, rfl, hs, r⟩ := hd.lst
      obtain ⟨q, us, rfl, hs', r'⟩ := he.lst
      simp only [oAdd] at h
      split at h
      · rename_i hz
        have l1 := r.length
        have l2 := r'.length
        exact .inr (.inr (.inr ⟨p, q, vs, us, rfl, rfl, hs, hs', by rw [l1, l2]; exact szOk_le hz, fun t ht => out_lst R (by rw [List.length_append]; exact szOk_le hz) (r.append r') h ht⟩))
      · exact h.elim
    | _ => exact h.elim
  | _ => exact h.elim
theorem pr_addF : Pr2F K rCat oAdd := by
  intro Z g j σ S σV H x y d e Q hK R hd he h
  cases d with
  | lst a =>
    cases e with
    | lst b =>
      obtain ⟨p, vs, rfl, hs, r⟩ := hd.lst
      obtain ⟨q, us, rfl, hs', r'⟩ := he.lst
      simp only [oAdd] at h
      split at h
      · rename_i hz
        have l1 := r.length
        have l2 := r'.length
        exact ⟨p, q, vs, us, rfl, rfl, hs, hs', by rw [l1, l2]; exact szOk_le hz, fun t ht => out_lstF R (by rw [List.length_append]; exact szOk_le hz) (r.append r') h ht⟩
      · exact h.elim
    | _ => exact h.elim
  | int a => cases e <;> exact h.elim
  | str a =>
    cases e with
    | str b =>
      simp only [oAdd] at h
      split at h <;> exact h.elim
    | _ => exact h.elim
  | tup a =>
    cases e with
    | tup b =>
      simp only [oAdd] at h
      split at h <;> exact h.elim
    | _ => exact h.elim
  | _ => exact h.elim
def oI (C : Int → Int → Bool) (f : Int → Int → D) : D → D → Sto → Res D
  | .int a, .int b, S => if C a b = true then .ok (f a b) S else .stuck
  | _, _, _ => .stuck
theorem pr_I {C : Int → Int → Bool} {Cp : Int → Int → Prop} {f : Int → Int → D} {fv : Int → Int → V} (hC : ∀ a b, C a b = true → Cp a b) (hf : ∀ w a b, RD w (f a b) (fv a b)) : Pr2 K (rI Cp fv) (oI C f) := by
  intro Z g j σ S σV H x y d e Q hK R hd he h
  cases d with
  | int a =>
    cases e with
    | int b =>
      rw [(hd.rd (by intro _ z; cases z)).of_int, (he.rd (by intro _ z; cases z)).of_int]
      simp only [oI] at h
      split at h
      · rename_i hz
        exact ⟨a, b, rfl, rfl, hC _ _ hz, h j _ H R Stp.refl (hf _ _ _)⟩
      · exact h.elim
    | _ => exact h.elim
  | _ => exact h.elim
theorem rI0_of {fv : Int → Int → V} : ∀ x y H Q, rI (fun _ _ => True) fv x y H Q → rI0 fv x y H Q := fun x y H Q ⟨i, j, a, b, _, q⟩ => ⟨i, j, a, b, q⟩
theorem Pr2.imp {r r' : R2} {f : D → D → Sto → Res D} (h : Pr2 K r f) (i : ∀ x y H Q, r x y H Q → r' x y H Q) : Pr2 K r' f :=
  fun Z g j σ S σV H x y d e Q hK R hd he q => i _ _ _ _ (h Z g j σ S σV H x y d e Q hK R hd he q)
def cAll : Int → Int → Bool := fun _ _ => true
def oSub : D → D → Sto → Res D := oI cAll fun a b => .int (a - b)
def oLt : D → D → Sto → Res D := oI cAll fun a b => .bl (decide (a < b))
def oLe : D → D → Sto → Res D := oI cAll fun a b => .bl (decide (a ≤ b))
def oGt : D → D → Sto → Res D := oI cAll fun a b => .bl (decide (b < a))
def oGe : D → D → Sto → Res D := oI cAll fun a b => .bl (decide (b ≤ a))
theorem pr_sub : Pr2 K (rI0 fun i j => .int (i - j)) oSub := (pr_I (Cp := fun _ _ => True) (fun _ _ _ => trivial) fun _ _ _ => .int _).imp rI0_of
theorem pr_lt : Pr2 K (rI0 fun i j => .bl (decide (i < j))) oLt := (pr_I (Cp := fun _ _ => True) (fun _ _ _ => trivial) fun _ _ _ => .bl _).imp rI0_of
theorem pr_le : Pr2 K (rI0 fun i j => .bl (decide (i ≤ j))) oLe := (pr_I (Cp := fun _ _ => True) (fun _ _ _ => trivial) fun _ _ _ => .bl _).imp rI0_of
theorem pr_gt : Pr2 K (rI0 fun i j => .bl (decide (j < i))) oGt := (pr_I (Cp := fun _ _ => True) (fun _ _ _ => trivial) fun _ _ _ => .bl _).imp rI0_of
theorem pr_ge : Pr2 K (rI0 fun i j => .bl (decide (j ≤ i))) oGe := (pr_I (Cp := fun _ _ => True) (fun _ _ _ => trivial) fun _ _ _ => .bl _).imp rI0_of
def cDiv : Int → Int → Bool := fun _ b => decide (0 < b) && decide (b < 1073741824)
def cMod : Int → Int → Bool := fun _ b => decide (0 < b)
def cMul : Int → Int → Bool := fun a b => (decide (-18446744073709551616 < a) && decide (a < 18446744073709551616)) || (decide (-18446744073709551616 < b) && decide (b < 18446744073709551616))
def cPow : Int → Int → Bool := fun a b => decide (0 ≤ b) && decide (b ≤ 1000) && decide (a.natAbs < 18446744073709551616)
def oFdiv : D → D → Sto → Res D := oI cDiv fun a b => .int (a / b)
def oMod : D → D → Sto → Res D := oI cMod fun a b => .int (a % b)
def oPow : D → D → Sto → Res D := oI cPow fun a b => .int (a ^ b.toNat)
theorem pr_fdiv : Pr2 K (rI CDiv fun i j => .int (i / j)) oFdiv := pr_I (fun a b h => by
  unfold cDiv at h
  rw [Bool.and_eq_true] at h
  exact ⟨of_decide_eq_true h.1, of_decide_eq_true h.2⟩) fun _ _ _ => .int _
theorem pr_mod : Pr2 K (rI (fun _ j => 0 < j) fun i j => .int (i % j)) oMod := pr_I (fun a b h => of_decide_eq_true h) fun _ _ _ => .int _
theorem pr_pow : Pr2 K (rI CPow fun i j => .int (i ^ j.toNat)) oPow := pr_I (fun a b h => by
  unfold cPow at h
  rw [Bool.and_eq_true, Bool.and_eq_true] at h
  have h2 := of_decide_eq_true h.1.2
  exact ⟨of_decide_eq_true h.1.1, by omega, of_decide_eq_true h.2⟩) fun _ _ _ => .int _
/-- int * int, list * int, tuple * int -/
def oMul : D → D → Sto → Res D
  | .int a, .int b, S => if cMul a b = true then .ok (.int (a * b)) S else .stuck
  | .lst l, .int k, S => if (decide (0 ≤ k) && decide (k ≤ 1000) && decide (l.length ≤ 1000)) = true then .ok (.lst (List.replicate k.toNat l).flatten) S else .stuck
  | .tup l, .int k, S => if (decide (2 ≤ k) && decide (k ≤ 1000) && decide (l.length ≤ 1000) && (!l.isEmpty)) = true then .ok (.tup (List.replicate k.toNat l).flatten) S else if k = 1 then .ok (.tup l) S else if (decide (-1000 ≤ k) && decide (k ≤ 0) && (!l.isEmpty)) = true then .ok (.tup []) S else .stuck
  | _, _, _ => .stuck
def rMulA (K : PySem.W.Frag) : R2 := fun x y H Q => rI CMul (fun i j => .int (i * j)) x y H Q ∨ rRep x y H Q ∨ rRepT K x y H Q ∨ rRep1T K x y H Q ∨ rRep0T K x y H Q
theorem op_mulA : OpR X (binaryOp .Mult) (rMulA X.K) := op_mul.or (op_rep.or (op_repT.or (op_rep1T.or op_rep0T)))
theorem RDs.rep {w : Wo} {ds : List D} {vs : List V} (h : RDs w ds vs) : ∀ k : Nat, RDs w (List.replicate k ds).flatten (List.replicate k vs).flatten
  | 0 => .nil
  | k + 1 => by
    rw [List.replicate_succ, List.replicate_succ, List.flatten_cons, List.flatten_cons]
    exact h.append (RDs.rep h k)
theorem mul_line {n : Nat} {k : Int} (h1 : k ≤ 1000) (h2 : n ≤ 1000) : n * k.toNat ≤ sizeLine := by
  rw [sizeLine_eq]
  have h3 : k.toNat ≤ 1000 := by omega
  exact Nat.le_trans (Nat.mul_le_mul h2 h3) (by decide)
theorem rep_line {α : Type} {l : List α} {k : Int} (h1 : k ≤ 1000) (h2 : l.length ≤ 1000) : (List.replicate k.toNat l).flatten.length ≤ sizeLine := by
  have e : ∀ n : Nat, (List.replicate n l).flatten.length = l.length * n := fun n => by
    induction n with
    | zero => rfl
    | succ n ih => rw [List.replicate_succ, List.flatten_cons, List.length_append, ih, Nat.mul_succ, Nat.add_comm]
  rw [e]
  exact mul_line h1 h2
theorem pr_mul : Pr2 K (rMulA K) oMul := by
  intro Z g j σ S σV H x y d e Q hK R hd he h
  cases d with
  | int a =>
    cases e with
    | int b =>
      rw [(hd.rd (by intro _ z; cases z)).of_int, (he.rd (by intro _ z; cases z)).of_int]
      simp only [oMul] at h
      split at h
      · rename_i hz
        refine .inl ⟨a, b, rfl, rfl, ?_, h j _ H R Stp.refl (.int _)⟩
        unfold cMul at hz
        rw [Bool.or_eq_true, Bool.and_eq_true, Bool.and_eq_true] at hz
        rcases hz with hz | hz
        · exact .inl ⟨of_decide_eq_true hz.1, of_decide_eq_true hz.2⟩
        · exact .inr ⟨of_decide_eq_true hz.1, of_decide_eq_true hz.2⟩
      · exact h.elim
    | _ => exact h.elim
  | lst l =>
    cases e with
    | int k =>
      rw [(he.rd (by intro _ z; cases z)).of_int]
      obtain ⟨p, vs, rfl, hs, r⟩ := hd.lst
      simp only [oMul] at h
      split at h
      · rename_i hz
        rw [Bool.and_eq_true, Bool.and_eq_true] at hz
        have h1 := of_decide_eq_true hz.1.1
        have h2 := of_decide_eq_true hz.1.2
        have h3 := of_decide_eq_true hz.2
        refine .inr (.inl ⟨p, k, vs, rfl, rfl, hs, by omega, by omega, mul_line h2 (by rw [r.length]; exact h3), fun q hq => out_lst R (rep_line h2 h3) (r.rep _) h hq⟩)
      · exact h.elim
    | _ => exact h.elim
  | tup l =>
    cases e with
    | int k =>
      rw [(he.rd (by intro _ z; cases z)).of_int]
      obtain ⟨p, vs, rfl, hs, r⟩ := (hd.rd (by intro _ z; cases z)).of_tup
      simp only [oMul] at h
      split at h
      · rename_i hz
        rw [Bool.and_eq_true, Bool.and_eq_true, Bool.and_eq_true] at hz
        have h1 := of_decide_eq_true hz.1.1.1
        have h2 := of_decide_eq_true hz.1.1.2
        have h3 := of_decide_eq_true hz.1.2
        have h4 := hz.2
        subst hK
        refine .inr (.inr (.inl ⟨p, k, vs, rfl, rfl, hs, fun z => ?_, h1, h2, by rw [r.length]; exact h3, fun q hq => out_tup R (rep_line h2 h3) (r.rep _) h hq⟩))
        subst z
        cases r
        simp at h4
      · split at h
        · rename_i hz
          subst hK
          subst hz
          exact .inr (.inr (.inr (.inl ⟨p, vs, rfl, rfl, hs, h j _ H R Stp.refl (hd.rd (by intro _ z; cases z))⟩)))
        · split at h
          · rename_i hz
            rw [Bool.and_eq_true, Bool.and_eq_true] at hz
            have h1 := of_decide_eq_true hz.1.1
            have h2 := of_decide_eq_true hz.1.2
            have h4 := hz.2
            subst hK
            refine .inr (.inr (.inr (.inr ⟨p, k, vs, rfl, rfl, hs, fun z => ?_, h1, h2, fun q hq => out_tup R (Nat.zero_le _) .nil h hq⟩)))
            subst z
            cases r
            simp at h4
          · exact h.elim
    | _ => exact h.elim
  | _ => exact h.elim
def rEqLen (K : PySem.W.Frag) : R2 := fun x y H Q => ∃ a b xs ys, x = .ref a ∧ y = .ref b ∧ SqL K H a xs ∧ SqL K H b ys ∧ xs.length ≠ ys.length ∧ Q (.bl false) H
def rNeLen (K : PySem.W.Frag) : R2 := fun x y H Q => ∃ a b xs ys, x = .ref a ∧ y = .ref b ∧ SqL K H a xs ∧ SqL K H b ys ∧ xs.length ≠ ys.length ∧ Q (.bl true) H
theorem len_ne {xs ys : List V} {us ws : List Value} (r : Vals xs us) (r' : Vals ys ws) (h : xs.length ≠ ys.length) : (us.toArray.size != ws.toArray.size) = true := by
  rw [bne_iff_ne, List.size_toArray, List.size_toArray, ← r.length, ← r'.length]; exact h
theorem op_eqLen (hu : X.A.units + 64 < cLine) : OpR X (compareOp .Eq) (rEqLen X.K) := by
  intro pins s σ H x y v u Q I rx ry h
  obtain ⟨a, b, xs, ys, rfl, rfl, ha, hb, hn, q⟩ := h
  cases (show v = Value.ref a from rx)
  cases (show u = Value.ref b from ry)
  obtain ⟨its, rv, ⟨o, n, ho, hc, _, hd⟩, _⟩ := I.list ha
  obtain ⟨its', rv', ⟨o', n', ho', hc', _, hd'⟩, _⟩ := I.list hb
  exact SeqAt.RcAt.lists_lengths ⟨_, ho, hc, _, hd⟩ ⟨_, ho', hc', _, hd'⟩ (len_ne rv rv' hn) (by omega) _ _ _ _ ⟨.bl false, H, I, rfl, q⟩
theorem op_neLen (hu : X.A.units + 64 < cLine) : OpR X (compareOp .NotEq) (rNeLen X.K) := by
  intro pins s σ H x y v u Q I rx ry h
  obtain ⟨a, b, xs, ys, rfl, rfl, ha, hb, hn, q⟩ := h
  cases (show v = Value.ref a from rx)
  cases (show u = Value.ref b from ry)
  obtain ⟨its, rv, ⟨o, n, ho, hc, _, hd⟩, _⟩ := I.list ha
  obtain ⟨its', rv', ⟨o', n', ho', hc', _, hd'⟩, _⟩ := I.list hb
  exact SeqAt.RcNeAt.lists_lengths ⟨_, ho, hc, _, hd⟩ ⟨_, ho', hc', _, hd'⟩ (len_ne rv rv' hn) (by omega) _ _ _ _ ⟨.bl true, H, I, rfl, q⟩
def rEqA (K : PySem.W.Frag) : R2 := fun x y H Q => rEqD K x y H Q ∨ rEqLen K x y H Q
def rNeA (K : PySem.W.Frag) : R2 := fun x y H Q => rNeD K x y H Q ∨ rNeLen K x y H Q
theorem op_eqE (hu : X.A.units + 64 < cLine) : OpR X (compareOp .Eq) (rEqA X.K) := (op_eqD hu).or (op_eqLen hu)
theorem op_neE (hu : X.A.units + 64 < cLine) : OpR X (compareOp .NotEq) (rNeA X.K) := (op_neD hu).or (op_neLen hu)
/-- lists of unlike lengths, whatever they hold -/
def cmpLen (b : Bool) (d e : D) (S : Sto) : Res D := match d, e with
  | .lst l, .lst l' => if l.length = l'.length then .stuck else .ok (.bl b) S
  | _, _ => .stuck
def oEq (d e : D) (S : Sto) : Res D := if (okd 64 d && okd 64 e) = true then .ok (.bl (deq d e)) S else cmpLen false d e S
def oNe (d e : D) (S : Sto) : Res D := if (okd 64 d && okd 64 e) = true then .ok (.bl (!deq d e)) S else cmpLen true d e S
theorem cmpLen_of {b : Bool} {d e : D} {S : Sto} {Z : Env1} {g : Gd} {j : Nat → Addr} {σ : Sl} {σV : L2.St} {H : Hp} {Q : VK} (h : OutR Z g j σ S σV H RD Q (cmpLen b d e S)) : ∃ l l', d = .lst l ∧ e = .lst l' ∧ l.length ≠ l'.length ∧ OutR Z g j σ S σV H RD Q (.ok (.bl b) S) := by
  unfold cmpLen at h
  split at h
  · rename_i l l'
    by_cases hl : l.length = l'.length
    · rw [if_pos hl] at h; exact h.elim
    · rw [if_neg hl] at h
      exact ⟨l, l', rfl, rfl, hl, h⟩
  · exact h.elim
theorem pr_eq : Pr2 K (rEqA K) oEq := by
  intro Z g j σ S σV H x y d e Q hK R hd he h
  unfold oEq at h
  split at h
  · rename_i hz
    rw [Bool.and_eq_true] at hz
    subst hK
    refine .inl ⟨toPy d, toPy e, hd.dp hz.1, he.dp hz.2, shaped_toPy hz.1, shaped_toPy hz.2, ?_⟩
    rw [eqv_toPy d e hz.1 hz.2]
    exact h j _ H R Stp.refl (.bl _)
  · obtain ⟨l, l', rfl, rfl, hn, h⟩ := cmpLen_of h
    obtain ⟨a, vs, rfl, ha, r⟩ := hd.lst
    obtain ⟨a', vs', rfl, ha', r'⟩ := he.lst
    exact .inr ⟨a, a', vs, vs', rfl, rfl, .of ha, .of ha', by rw [r.length, r'.length]; exact hn, h j _ H R Stp.refl (.bl _)⟩
theorem pr_ne : Pr2 K (rNeA K) oNe := by
  intro Z g j σ S σV H x y d e Q hK R hd he h
  unfold oNe at h
  split at h
  · rename_i hz
    rw [Bool.and_eq_true] at hz
    subst hK
    refine .inl ⟨toPy d, toPy e, hd.dp hz.1, he.dp hz.2, shaped_toPy hz.1, shaped_toPy hz.2, ?_⟩
    rw [eqv_toPy d e hz.1 hz.2]
    exact h j _ H R Stp.refl (.bl _)
  · obtain ⟨l, l', rfl, rfl, hn, h⟩ := cmpLen_of h
    obtain ⟨a, vs, rfl, ha, r⟩ := hd.lst
    obtain ⟨a', vs', rfl, ha', r'⟩ := he.lst
    exact .inr ⟨a, a', vs, vs', rfl, rfl, .of ha, .of ha', by rw [r.length, r'.length]; exact hn, h j _ H R Stp.refl (.bl _)⟩
def isNon : D → Bool
  | .non => true
  | _ => false
def oIsN (d e : D) (S : Sto) : Res D := match e with
  | .non => .ok (.bl (isNon d)) S
  | .bl b => match d with
    | .bl c => .ok (.bl (decide (c = b))) S
    | _ => .stuck
  | _ => .stuck
def oNotN (d e : D) (S : Sto) : Res D := match e with
  | .non => .ok (.bl (!isNon d)) S
  | .bl b => match d with
    | .bl c => .ok (.bl (!decide (c = b))) S
    | _ => .stuck
  | _ => .stuck
theorem RL.isNon {w : Wo} {d : D} {v : V} (h : RL w d v) : decide (v = .non) = isNon d := by
  rcases h with h | ⟨a, vs, ds, rfl, rfl, _⟩
  · cases h <;> simp [Qi.isNon]
  · simp [Qi.isNon]
def rIsA : R2 := fun x y H Q => (y = .non ∧ Q (.bl (decide (x = .non))) H) ∨ ∃ a b, x = .bl a ∧ y = .bl b ∧ Q (.bl (decide (a = b))) H
def rNotA : R2 := fun x y H Q => (y = .non ∧ Q (.bl (!decide (x = .non))) H) ∨ ∃ a b, x = .bl a ∧ y = .bl b ∧ Q (.bl (!decide (a = b))) H
theorem op_isA : OpR X (compareOp .Is) rIsA := op_isN.or op_is_bl
theorem op_notA : OpR X (compareOp .IsNot) rNotA := op_notN.or op_isnot_bl
theorem pr_isN : Pr2 K rIsA oIsN := by
  intro Z g j σ S σV H x y d e Q hK R hd he h
  cases e with
  | non =>
    rw [(he.rd (by intro _ z; cases z)).of_non]
    refine .inl ⟨rfl, ?_⟩
    rw [hd.isNon]
    exact h j _ H R Stp.refl (.bl _)
  | bl b =>
    cases d with
    | bl c =>
      rw [(hd.rd (by intro _ z; cases z)).of_bl, (he.rd (by intro _ z; cases z)).of_bl]
      exact .inr ⟨c, b, rfl, rfl, h j _ H R Stp.refl (.bl _)⟩
    | _ => exact h.elim
  | _ => exact h.elim
theorem pr_notN : Pr2 K rNotA oNotN := by
  intro Z g j σ S σV H x y d e Q hK R hd he h
  cases e with
  | non =>
    rw [(he.rd (by intro _ z; cases z)).of_non]
    refine .inl ⟨rfl, ?_⟩
    rw [hd.isNon]
    exact h j _ H R Stp.refl (.bl _)
  | bl b =>
    cases d with
    | bl c =>
      rw [(hd.rd (by intro _ z; cases z)).of_bl, (he.rd (by intro _ z; cases z)).of_bl]
      exact .inr ⟨c, b, rfl, rfl, h j _ H R Stp.refl (.bl _)⟩
    | _ => exact h.elim
  | _ => exact h.elim
def oNeg : D → Sto → Res D
  | .int a, S => .ok (.int (-a)) S
  | _, _ => .stuck
theorem pr_neg : Pr1 K (rU fun i => .int (-i)) oNeg := by
  intro Z g j σ S σV H x d Q hK R hd h
  cases d with
  | int a =>
    rw [(hd.rd (by intro _ z; cases z)).of_int]
    exact ⟨a, rfl, h j _ H R Stp.refl (.int _)⟩
  | _ => exact h.elim
end Qi
namespace Qi
open PySem PySem.Spec L2
variable {X : Cx} {K : PySem.W.Frag} {Z : Env1} {a b e : Expr} {ma mb : Ex} {pos : Pos}
def oIx : D → D → Sto → Res D
  | .lst l, .int i, S => match atI l i with
    | some d => .ok d S
    | none => .stuck
  | .tup l, .int i, S => match atI l i with
    | some d => .ok d S
    | none => .stuck
  | .str z, .int i, S => if szOk z.length = true then (match atI z.cps.toList i with
    | some c => .ok (.str ⟨#[c]⟩) S
    | none => .stuck) else .stuck
  | _, _, _ => .stuck
theorem RDs.atI {w : Wo} {ds : List D} {vs : List V} {i : Int} {d : D} (r : RDs w ds vs) (h : L2.atI ds i = some d) : ∃ v, L2.atI vs i = some v ∧ RD w d v := by
  unfold L2.atI at h ⊢
  rw [r.length]
  cases e : ixN ds.length i with
  | none => rw [e] at h; cases h
  | some k =>
    rw [e] at h
    exact r.get h
theorem pr_ix : Pr2 K (rIx K) oIx := by
  intro Z g j σ S σV H x y d e Q hK R hd he h
  cases d with
  | lst l =>
    cases e with
    | int i =>
      rw [(he.rd (by intro _ z; cases z)).of_int]
      obtain ⟨p, vs, rfl, hs, r⟩ := hd.lst
      simp only [oIx] at h
      cases q : L2.atI l i with
      | none => rw [q] at h; exact h.elim
      | some d =>
        rw [q] at h
        obtain ⟨v, hv, rd⟩ := r.atI q
        exact .inl ⟨p, vs, i, v, rfl, rfl, .of hs, hv, h j _ H R Stp.refl rd⟩
    | _ => exact h.elim
  | tup l =>
    cases e with
    | int i =>
      rw [(he.rd (by intro _ z; cases z)).of_int]
      obtain ⟨p, vs, rfl, hs, r⟩ := (hd.rd (by intro _ z; cases z)).of_tup
      simp only [oIx] at h
      cases q : L2.atI l i with
      | none => rw [q] at h; exact h.elim
      | some d =>
        rw [q] at h
        obtain ⟨v, hv, rd⟩ := r.atI q
        subst hK
        exact .inr (.inl ⟨p, vs, i, v, rfl, rfl, hs, hv, h j _ H R Stp.refl rd⟩)
    | _ => exact h.elim
  | str z =>
    cases e with
    | int i =>
      rw [(he.rd (by intro _ z; cases z)).of_int, (hd.rd (by intro _ z; cases z)).of_str]
      simp only [oIx] at h
      split at h
      · rename_i hz
        cases q : L2.atI z.cps.toList i with
        | none => rw [q] at h; exact h.elim
        | some c =>
          rw [q] at h
          exact .inr (.inr ⟨z, i, c, rfl, rfl, szOk_le hz, q, h j _ H R Stp.refl (.str _)⟩)
      · exact h.elim
    | _ => exact h.elim
  | _ => exact h.elim
theorem de_ix (ha : DB X Z a ma) (hb : DB X Z b mb) (hs : PlainIx b) (hK : Z.K.K = X.K := by rfl) : DE X Z (.Subscript a b pos) (x2 oIx ma mb) :=
  PE.imp (pe_ix ix_seq ha hb hs) fun _ _ _ q => l2_of pr_ix hK q
abbrev Pt := Sl → Sto → Res (Option Int)
def pN : Pt := fun _ S => .ok none S
def asI : D → Sto → Res (Option Int)
  | .int i, S => .ok (some i) S
  | _, _ => .stuck
def pS (m : Ex) : Pt := fun σ S => (m σ S).bind asI
def ROpt (_ : Wo) (a b : Option Int) : Prop := a = b
def lO (Z : Env1) (m : Pt) : TO := fun σV H Q => ∃ g j σ S, RelZ Z g j σ S σV H ∧ OutR Z g j σ S σV H ROpt Q (m σ S)
theorem PO.imp {e : Option Expr} {t t' : TO} (h : PO X e t) (i : ∀ σ H Q, t' σ H Q → t σ H Q) : PO X e t' := ⟨fun pins s σ H Q I q => h.run pins s σ H Q I (i _ _ _ q)⟩
theorem dp_none : PO X none (lO Z pN) := PO.imp po_none fun σV H Q => by
  rintro ⟨g, j, σ, S, R, h⟩
  exact h j _ H R Stp.refl rfl
theorem dp_some (h : DE X Z e ma) : PO X (some e) (lO Z (pS ma)) := PO.imp (po_some h) fun σV H Q => by
  rintro ⟨g, j, σ, S, R, h⟩
  refine ⟨g, j, σ, S, R, OutR.bind (fun d S1 j1 v H1 R1 s1 rd h1 => ?_) h⟩
  cases d with
  | int i => exact ⟨i, rd.of_int, h1 j1 _ H1 R1 Stp.refl rfl⟩
  | _ => exact h1.elim
def cutL {α : Type} (xs : List α) (lo hi : Option Int) : List α := (xs.drop (HT.sIx xs.length 0 lo)).take (HT.sIx xs.length xs.length hi - HT.sIx xs.length 0 lo)
theorem cutL_len {α : Type} (xs : List α) (lo hi : Option Int) : (cutL xs lo hi).length ≤ xs.length := by
  unfold cutL
  rw [List.length_take, List.length_drop]
  omega
theorem RDs.cut {w : Wo} {ds : List D} {vs : List V} (r : RDs w ds vs) (lo hi : Option Int) : RDs w (cutL ds lo hi) (cutV vs lo hi) := by
  unfold cutL cutV
  rw [r.length]
  exact (r.drop _).take _
def xSl (f : D → Option Int → Option Int → Sto → Res D) (m : Ex) (lo hi : Pt) : Ex := fun σ S => (m σ S).bind fun d S1 => (lo σ S1).bind fun l S2 => (hi σ S2).bind fun u S3 => f (rsv S3 d) l u S3
def oSl : D → Option Int → Option Int → Sto → Res D
  | .lst l, lo, hi, S => .ok (.lst (cutL l lo hi)) S
  | .tup l, lo, hi, S => .ok (.tup (cutL l lo hi)) S
  | .str z, lo, hi, S => if szOk z.length = true then .ok (.str (cutS z lo hi)) S else .stuck
  | _, _, _, _ => .stuck
def rSlAll (K : PySem.W.Frag) : V → Option Int → Option Int → Hp → VK → Prop := fun x lo hi H Q => rSlL K x lo hi H Q ∨ rSlA K x lo hi H Q ∨ rSlS x lo hi H Q
theorem sl_all : SlR X (rSlAll X.K) := sl_list.or (sl_tupA.or sl_str)
theorem cutL_all {α : Type} {xs : List α} {lo hi : Option Int} (h1 : HT.sIx xs.length 0 lo = 0) (h2 : HT.sIx xs.length xs.length hi = xs.length) : cutL xs lo hi = xs := by
  unfold cutL
  rw [h1, h2]
  simp
theorem de_sl {lo hi : Option Expr} {l u : Pt} {p2 : Pos} (he : DB X Z e ma) (hl : PO X lo (lO Z l)) (hu : PO X hi (lO Z u)) (hK : Z.K.K = X.K := by rfl) : DE X Z (.Subscript e (.Slice lo hi none p2) pos) (xSl oSl ma l u) :=
  PE.imp (pe_slice sl_all he hl hu) fun σV H Q => by
    rintro ⟨g, j, σ, S, R, h⟩
    refine ⟨g, j, σ, S, R, OutR.bind (fun d S1 j1 x H1 R1 s1 rd h1 => ?_) h⟩
    refine ⟨g, j1, σ, S1, R1, OutR.bind (fun lo S2 j2 lo' H2 R2 s2 e2 h2 => ?_) h1⟩
    refine ⟨g, j2, σ, S2, R2, OutR.bind (fun hi S3 j3 hi' H3 R3 s3 e3 h3 => ?_) h2⟩
    cases (show lo = lo' from e2)
    cases (show hi = hi' from e3)
    have rd3 := ((rd.mono R1 s2).mono R2 s3).rsv R3
    generalize rsv S3 d = d at rd3 h3
    cases d with
    | lst l =>
      obtain ⟨p, vs, rfl, hs, r⟩ := rd3.lst
      exact .inl ⟨p, vs, rfl, .of hs, fun q hq => out_lst R3 (Nat.le_trans (cutL_len _ _ _) rd3.len) (r.cut lo hi) h3 hq⟩
    | tup l =>
      have rd4 := rd3.rd (by intro _ z; cases z)
      obtain ⟨p, vs, rfl, hs, r⟩ := rd4.of_tup
      rw [← hK]
      refine .inr (.inl ⟨p, vs, rfl, hs, fun z => ?_, fun z q hq => out_tup R3 (Nat.le_trans (cutL_len _ _ _) rd4.len_tup) (r.cut lo hi) h3 hq⟩)
      rw [r.length] at z
      simp only [oSl] at h3
      rw [cutL_all z.1 z.2] at h3
      exact h3 j3 _ H3 R3 Stp.refl rd4
    | str z =>
      rw [(rd3.rd (by intro _ z; cases z)).of_str]
      simp only [oSl] at h3
      split at h3
      · rename_i hz
        exact .inr (.inr ⟨z, rfl, szOk_le hz, h3 j3 _ H3 R3 Stp.refl (.str _)⟩)
      · exact h3.elim
    | _ => exact h3.elim
theorem df_sl {lo hi : Option Expr} {l u : Pt} {p2 : Pos} (he : DB X Z e ma) (hl : PO X lo (lO Z l)) (hu : PO X hi (lO Z u)) (hK : Z.K.K = X.K := by rfl) : DF X Z (.Subscript e (.Slice lo hi none p2) pos) (xSl oSl ma l u) :=
  PE.imp (pe_slice sl_list he hl hu) fun σV H Q => by
    rintro ⟨g, j, σ, S, R, h⟩
    refine ⟨g, j, σ, S, R, OutF.bind (fun d S1 j1 x H1 R1 s1 rd h1 => ?_) h⟩
    refine ⟨g, j1, σ, S1, R1, OutF.bind (fun lo S2 j2 lo' H2 R2 s2 e2 h2 => ?_) h1⟩
    refine ⟨g, j2, σ, S2, R2, OutF.bind (fun hi S3 j3 hi' H3 R3 s3 e3 h3 => ?_) h2⟩
    cases (show lo = lo' from e2)
    cases (show hi = hi' from e3)
    have rd3 := ((rd.mono R1 s2).mono R2 s3).rsv R3
    generalize rsv S3 d = d at rd3 h3
    cases d with
    | lst l =>
      obtain ⟨p, vs, rfl, hs, r⟩ := rd3.lst
      exact ⟨p, vs, rfl, .of hs, fun q hq => out_lstF R3 (Nat.le_trans (cutL_len _ _ _) rd3.len) (r.cut lo hi) h3 hq⟩
    | str z =>
      simp only [oSl] at h3
      split at h3 <;> exact h3.elim
    | _ => exact h3.elim
/-- xs[::-1] of a list -/
def oRev : D → Sto → Res D
  | .lst l, S => .ok (.lst l.reverse) S
  | _, _ => .stuck
theorem df_rev {k : Nat} {p1 p2 p3 : Pos} (he : DB X Z e ma) (hK : Z.K.K = X.K := by rfl) : DF X Z (.Subscript e (.Slice none none (some (.UnaryOp .USub (.Constant (.int 1) k p1) p2)) p3) pos) (x1 oRev ma) :=
  PE.imp (pe_revL he) fun σV H Q => by
    rintro ⟨g, j, σ, S, R, h⟩
    refine ⟨g, j, σ, S, R, OutF.bind (fun d S1 j1 x H1 R1 s1 rd h1 => ?_) h⟩
    have rd := rd.rsv R1
    generalize rsv S1 d = d at rd h1
    cases d with
    | lst l =>
      obtain ⟨p, vs, rfl, hs, r⟩ := rd.lst
      exact ⟨p, vs, rfl, .of hs, fun q hq => out_lstF R1 (by rw [List.length_reverse]; exact rd.len) r.reverse h1 hq⟩
    | _ => exact h1.elim
def oIn (neg : Bool) : D → D → Sto → Res D
  | x, .lst l, S => if (okd 64 x && okd 64 (.lst l)) = true then .ok (.bl (if neg then !(l.any fun z => deq z x) else l.any fun z => deq z x)) S else .stuck
  | x, .tup l, S => if (okd 64 x && okd 64 (.tup l)) = true then .ok (.bl (if neg then !(l.any fun z => deq z x) else l.any fun z => deq z x)) S else .stuck
  | .str x, .str y, S => .ok (.bl (if neg then !(!(Builtin.Str.occurrences y x 0 y.length 1).isEmpty) else !(Builtin.Str.occurrences y x 0 y.length 1).isEmpty)) S
  | _, _, _ => .stuck
def rInT (K : PySem.W.Frag) : R2 := fun x y H Q => ∃ d ds, Dp K H x d ∧ Dp K H y (.tuple ds) ∧ SeqAt.shaped d = true ∧ SeqAt.shaped (.tuple ds) = true ∧ Q (.bl (ds.any fun z => PyData.eqv z d)) H
def rNotInT (K : PySem.W.Frag) : R2 := fun x y H Q => ∃ d ds, Dp K H x d ∧ Dp K H y (.tuple ds) ∧ SeqAt.shaped d = true ∧ SeqAt.shaped (.tuple ds) = true ∧ Q (.bl (!ds.any fun z => PyData.eqv z d)) H
theorem op_inT (hu : X.A.units + 65 < cLine) : OpR X (compareOp .In) (rInT X.K) := by
  intro pins s σ H x y v u Q I rx ry h
  obtain ⟨d, ds, hd, he, sd, se, q⟩ := h
  obtain ⟨as, r1⟩ := Dp.reads I d x v hd rx
  obtain ⟨bs, r2⟩ := Dp.reads I (.tuple ds) y u he ry
  exact SeqAt.in_tuple_reads r2 r1 (SeqAt.canLay_of_shaped se) (SeqAt.canLay_of_shaped sd) (PyProof.Rows.room_in_shaped sd hu) ⟨.bl _, H, I, rfl, q⟩
theorem op_notInT (hu : X.A.units + 65 < cLine) : OpR X (compareOp .NotIn) (rNotInT X.K) := by
  intro pins s σ H x y v u Q I rx ry h
  obtain ⟨d, ds, hd, he, sd, se, q⟩ := h
  obtain ⟨as, r1⟩ := Dp.reads I d x v hd rx
  obtain ⟨bs, r2⟩ := Dp.reads I (.tuple ds) y u he ry
  exact SeqAt.notIn_tuple_reads r2 r1 (SeqAt.canLay_of_shaped se) (SeqAt.canLay_of_shaped sd) (PyProof.Rows.room_in_shaped sd hu) ⟨.bl _, H, I, rfl, q⟩
def rInA (K : PySem.W.Frag) : R2 := fun x y H Q => rInD K x y H Q ∨ rInT K x y H Q ∨ ∃ i j, x = .str i ∧ y = .str j ∧ Q (.bl (!(Builtin.Str.occurrences j i 0 j.length 1).isEmpty)) H
def rNotInA (K : PySem.W.Frag) : R2 := fun x y H Q => rNotInD K x y H Q ∨ rNotInT K x y H Q ∨ ∃ i j, x = .str i ∧ y = .str j ∧ Q (.bl (!(!(Builtin.Str.occurrences j i 0 j.length 1).isEmpty))) H
theorem op_inA (hu : X.A.units + 65 < cLine) : OpR X (compareOp .In) (rInA X.K) := (op_inD hu).or ((op_inT hu).or op_in_str)
theorem op_notInA (hu : X.A.units + 65 < cLine) : OpR X (compareOp .NotIn) (rNotInA X.K) := (op_notInD hu).or ((op_notInT hu).or op_notin_str)
theorem any_toPys {n m : Nat} {x : D} (hx : okd m x = true) : ∀ {l : List D}, l.all (okd n) = true → (toPys l).any (fun z => PyData.eqv z (toPy x)) = l.any fun z => deq z x
  | [], _ => rfl
  | d :: r, h => by
    rw [List.all_cons, Bool.and_eq_true] at h
    simp only [toPys, List.any_cons]
    rw [eqv_toPy d x h.1 hx, any_toPys hx h.2]
theorem pr_in : Pr2 K (rInA K) (oIn false) := by
  intro Z g j σ S σV H x y d e Q hK R hd he h
  cases e with
  | lst l =>
    simp only [oIn] at h
    split at h
    · rename_i hz
      rw [Bool.and_eq_true] at hz
      obtain ⟨m, _, k⟩ := okd_lst hz.2
      subst hK
      refine .inl ⟨toPy d, toPys l, hd.dp hz.1, he.dp hz.2, shaped_toPy hz.1, shaped_toPy hz.2, ?_⟩
      rw [any_toPys hz.1 k]
      exact h j _ H R Stp.refl (.bl _)
    · exact h.elim
  | tup l =>
    simp only [oIn] at h
    split at h
    · rename_i hz
      rw [Bool.and_eq_true] at hz
      obtain ⟨m, _, k⟩ := okd_tup hz.2
      subst hK
      refine .inr (.inl ⟨toPy d, toPys l, hd.dp hz.1, he.dp hz.2, shaped_toPy hz.1, shaped_toPy hz.2, ?_⟩)
      rw [any_toPys hz.1 k]
      exact h j _ H R Stp.refl (.bl _)
    · exact h.elim
  | str y =>
    cases d with
    | str x =>
      rw [(hd.rd (by intro _ z; cases z)).of_str, (he.rd (by intro _ z; cases z)).of_str]
      exact .inr (.inr ⟨x, y, rfl, rfl, h j _ H R Stp.refl (.bl _)⟩)
    | _ => exact h.elim
  | _ => cases d <;> exact h.elim
theorem pr_notIn : Pr2 K (rNotInA K) (oIn true) := by
  intro Z g j σ S σV H x y d e Q hK R hd he h
  cases e with
  | lst l =>
    simp only [oIn] at h
    split at h
    · rename_i hz
      rw [Bool.and_eq_true] at hz
      obtain ⟨m, _, k⟩ := okd_lst hz.2
      subst hK
      refine .inl ⟨toPy d, toPys l, hd.dp hz.1, he.dp hz.2, shaped_toPy hz.1, shaped_toPy hz.2, ?_⟩
      rw [any_toPys hz.1 k]
      exact h j _ H R Stp.refl (.bl _)
    · exact h.elim
  | tup l =>
    simp only [oIn] at h
    split at h
    · rename_i hz
      rw [Bool.and_eq_true] at hz
      obtain ⟨m, _, k⟩ := okd_tup hz.2
      subst hK
      refine .inr (.inl ⟨toPy d, toPys l, hd.dp hz.1, he.dp hz.2, shaped_toPy hz.1, shaped_toPy hz.2, ?_⟩)
      rw [any_toPys hz.1 k]
      exact h j _ H R Stp.refl (.bl _)
    · exact h.elim
  | str y =>
    cases d with
    | str x =>
      rw [(hd.rd (by intro _ z; cases z)).of_str, (he.rd (by intro _ z; cases z)).of_str]
      exact .inr (.inr ⟨x, y, rfl, rfl, h j _ H R Stp.refl (.bl _)⟩)
    | _ => exact h.elim
  | _ => cases d <;> exact h.elim
abbrev r1 (r : List V → Hp → VK → Prop) : V → Hp → VK → Prop := fun v H Q => r [v] H Q
theorem de_b1 {id : String} {x : Str} {r : List V → Hp → VK → Prop} {f : D → Sto → Res D} {p : Pos} (pr : Pr1 X.K (r1 r) f) (hc : CallR X (.builtin id) r) (hg : Gl X x) (hm : X.mg x = none) (hv : bootBuiltins x = some (.builtin id)) (ha : DB X Z e ma)
    (hn : x ≠ "__name__" := by decide) (hdb : (x == ("__debug__" : Str)) = false := by decide) (he : starEach [e] X.env = (false, eval e X.env) :: starEach [] X.env := by rfl) (hK : Z.K.K = X.K := by rfl) : DE X Z (.Call (.Name x p) [e] [] pos) (x1 f ma) :=
  PE.imp (pe_callB hc hg hm hv (pa_cons ha pa_nil he) hn hdb he rfl) fun σV H Q q => l1_of pr hK q
theorem df_b1 {id : String} {x : Str} {r : List V → Hp → VK → Prop} {f : D → Sto → Res D} {p : Pos} (pr : Pr1F X.K (r1 r) f) (hc : CallR X (.builtin id) r) (hg : Gl X x) (hm : X.mg x = none) (hv : bootBuiltins x = some (.builtin id)) (ha : DB X Z e ma)
    (hn : x ≠ "__name__" := by decide) (hdb : (x == ("__debug__" : Str)) = false := by decide) (he : starEach [e] X.env = (false, eval e X.env) :: starEach [] X.env := by rfl) (hK : Z.K.K = X.K := by rfl) : DF X Z (.Call (.Name x p) [e] [] pos) (x1 f ma) :=
  PE.imp (pe_callB hc hg hm hv (pa_cons ha pa_nil he) hn hdb he rfl) fun σV H Q q => l1_ofF pr hK q
theorem de_t1 {id : String} {x : Str} {r : List V → Hp → VK → Prop} {f : D → Sto → Res D} {p : Pos} (pr : Pr1 X.K (r1 r) f) (hc : CallR X (.type id) r) (hg : Gl X x) (hm : X.mg x = none) (hv : bootBuiltins x = some (.type id)) (ha : DB X Z e ma)
    (hn : x ≠ "__name__" := by decide) (hdb : (x == ("__debug__" : Str)) = false := by decide) (he : starEach [e] X.env = (false, eval e X.env) :: starEach [] X.env := by rfl) (hK : Z.K.K = X.K := by rfl) : DE X Z (.Call (.Name x p) [e] [] pos) (x1 f ma) :=
  PE.imp (pe_callTy hc hg hm hv (pa_cons ha pa_nil he) hn hdb he rfl) fun σV H Q q => l1_of pr hK q
theorem df_t1 {id : String} {x : Str} {r : List V → Hp → VK → Prop} {f : D → Sto → Res D} {p : Pos} (pr : Pr1F X.K (r1 r) f) (hc : CallR X (.type id) r) (hg : Gl X x) (hm : X.mg x = none) (hv : bootBuiltins x = some (.type id)) (ha : DB X Z e ma)
    (hn : x ≠ "__name__" := by decide) (hdb : (x == ("__debug__" : Str)) = false := by decide) (he : starEach [e] X.env = (false, eval e X.env) :: starEach [] X.env := by rfl) (hK : Z.K.K = X.K := by rfl) : DF X Z (.Call (.Name x p) [e] [] pos) (x1 f ma) :=
  PE.imp (pe_callTy hc hg hm hv (pa_cons ha pa_nil he) hn hdb he rfl) fun σV H Q q => l1_ofF pr hK q
theorem RL.seq {w : Wo} {d : D} {v : V} (h : RL w d v) {ds : List D} (hd : d = .lst ds ∨ d = .tup ds) : ∃ a vs, v = .ref a ∧ (SqL w.K.K w.H a vs ∨ SqT w.K.K w.H a vs) ∧ RDs w ds vs := by
  rcases hd with rfl | rfl
  · obtain ⟨p, vs, rfl, hs, r⟩ := h.lst
    exact ⟨p, vs, rfl, .inl (.of hs), r⟩
  · obtain ⟨p, vs, rfl, hs, r⟩ := (h.rd (by intro _ z; cases z)).of_tup
    exact ⟨p, vs, rfl, .inr hs, r⟩
def oLen : D → Sto → Res D
  | .lst l, S => .ok (.int (l.length : Nat)) S
  | .tup l, S => .ok (.int (l.length : Nat)) S
  | .scr l, S => .ok (.int (l.length : Nat)) S
  | .str z, S => if szOk z.length = true then .ok (.int (z.length : Nat)) S else .stuck
  | _, _ => .stuck
theorem pr_len : Pr1 K (r1 fun xs H Q => ∃ x n, xs = [x] ∧ LenV K x H n ∧ Q (.int n) H) oLen := by
  intro Z g j σ S σV H x d Q hK R hd h
  subst hK
  cases d with
  | lst l =>
    obtain ⟨p, vs, rfl, hs, r⟩ := hd.lst
    exact ⟨_, l.length, rfl, .inl ⟨vs, .of hs, r.length.symm⟩, h j _ H R Stp.refl (.int _)⟩
  | tup l =>
    obtain ⟨p, vs, rfl, hs, r⟩ := (hd.rd (by intro _ z; cases z)).of_tup
    exact ⟨_, l.length, rfl, .inr ⟨vs, hs, r.length.symm⟩, h j _ H R Stp.refl (.int _)⟩
  | scr l =>
    obtain ⟨p, rfl, hs⟩ := (hd.rd (by intro _ z; cases z)).of_scr
    exact ⟨_, l.length, rfl, .inl ⟨_, hs, by rw [List.length_map]⟩, h j _ H R Stp.refl (.int _)⟩
  | str z =>
    rw [(hd.rd (by intro _ z; cases z)).of_str]
    simp only [oLen] at h
    split at h
    · rename_i hz
      exact ⟨_, z.length, rfl, ⟨szOk_le hz, rfl⟩, h j _ H R Stp.refl (.int _)⟩
    · exact h.elim
  | _ => exact h.elim
def oList : D → Sto → Res D
  | .lst l, S => .ok (.lst l) S
  | .tup l, S => .ok (.lst l) S
  | _, _ => .stuck
abbrev rLst (K : PySem.W.Frag) : List V → Hp → VK → Prop := fun xs H Q => ∃ p ys, xs = [.ref p] ∧ (SqL K H p ys ∨ SqT K H p ys) ∧ ∀ l, H l = none → Q (.ref l) (upd H l (.lst ys))
theorem pr_listF : Pr1F K (r1 (rLst K)) oList := by
  intro Z g j σ S σV H x d Q hK R hd h
  subst hK
  cases d with
  | lst l =>
    obtain ⟨p, vs, rfl, hs, r⟩ := hd.seq (.inl rfl)
    exact ⟨p, vs, rfl, hs, fun q hq => out_lstF R hd.len r h hq⟩
  | tup l =>
    obtain ⟨p, vs, rfl, hs, r⟩ := hd.seq (.inr rfl)
    exact ⟨p, vs, rfl, hs, fun q hq => out_lstF R (hd.rd (by intro _ z; cases z)).len_tup r h hq⟩
  | _ => exact h.elim
def oTuple : D → Sto → Res D
  | .lst l, S => .ok (.tup l) S
  | .tup l, S => .ok (.tup l) S
  | _, _ => .stuck
abbrev rTpl (K : PySem.W.Frag) : List V → Hp → VK → Prop := fun xs H Q => ∃ p ys, xs = [.ref p] ∧ ((SqL K H p ys ∧ ∀ l, H l = none → Q (.ref l) (upd H l (.tup ys))) ∨ (SqT K H p ys ∧ Q (.ref p) H))
theorem pr_tuple : Pr1 K (r1 (rTpl K)) oTuple := by
  intro Z g j σ S σV H x d Q hK R hd h
  subst hK
  cases d with
  | lst l =>
    obtain ⟨p, vs, rfl, hs, r⟩ := hd.lst
    exact ⟨p, vs, rfl, .inl ⟨.of hs, fun q hq => out_tup R hd.len r h hq⟩⟩
  | tup l =>
    have hd := hd.rd (by intro _ z; cases z)
    obtain ⟨p, vs, rfl, hs, r⟩ := hd.of_tup
    exact ⟨p, vs, rfl, .inr ⟨hs, h j _ H R Stp.refl hd⟩⟩
  | _ => exact h.elim
def oInt : D → Sto → Res D
  | .int i, S => .ok (.int i) S
  | .bl k, S => .ok (.int (if k then 1 else 0)) S
  | _, _ => .stuck
theorem pr_int : Pr1 K (r1 fun xs H Q => (∃ i, xs = [.int i] ∧ Q (.int i) H) ∨ ∃ k, xs = [.bl k] ∧ Q (.int (if k then 1 else 0)) H) oInt := by
  intro Z g j σ S σV H x d Q hK R hd h
  cases d with
  | int i =>
    rw [(hd.rd (by intro _ z; cases z)).of_int]
    exact .inl ⟨i, rfl, h j _ H R Stp.refl (.int _)⟩
  | bl k =>
    rw [(hd.rd (by intro _ z; cases z)).of_bl]
    exact .inr ⟨k, rfl, h j _ H R Stp.refl (.int _)⟩
  | _ => exact h.elim
/-- the ints of a list of values -/
def dInts : List D → Option (List Int)
  | [] => some []
  | .int i :: r => (dInts r).map (i :: ·)
  | _ :: _ => none
theorem RDs.dInts {w : Wo} : ∀ {ds : List D} {vs : List V} {ns : List Int}, RDs w ds vs → Qi.dInts ds = some ns → vs = ns.map V.int
  | _, _, _, .nil, h => by cases h; rfl
  | .int i :: r, _, _, .cons hd t, h => by
    simp only [Qi.dInts] at h
    cases q : Qi.dInts r with
    | none => rw [q] at h; cases h
    | some ms =>
      rw [q] at h
      cases h
      rw [List.map_cons, RDs.dInts t q, hd.of_int]
  | .non :: _, _, _, .cons _ _, h => by cases h
  | .bl _ :: _, _, _, .cons _ _, h => by cases h
  | .str _ :: _, _, _, .cons _ _, h => by cases h
  | .tup _ :: _, _, _, .cons _ _, h => by cases h
  | .lst _ :: _, _, _, .cons _ _, h => by cases h
  | .dic _ :: _, _, _, .cons _ _, h => by cases h
  | .ref _ :: _, _, _, .cons _ _, h => by cases h
  | .obj _ _ :: _, _, _, .cons _ _, h => by cases h
  | .exc _ _ :: _, _, _, .cons _ _, h => by cases h
  | .clo _ _ :: _, _, _, .cons _ _, h => by cases h
  | .scr _ :: _, _, _, .cons _ _, h => by cases h
theorem RDs.of_ints {w : Wo} : ∀ ns : List Int, RDs w (ns.map D.int) (ns.map V.int)
  | [] => .nil
  | i :: r => .cons (.int i) (RDs.of_ints r)
/-- the bools -/
def dBools : List D → Option (List Bool)
  | [] => some []
  | .bl i :: r => (dBools r).map (i :: ·)
  | _ :: _ => none
theorem RDs.dBools {w : Wo} : ∀ {ds : List D} {vs : List V} {ns : List Bool}, RDs w ds vs → Qi.dBools ds = some ns → vs = ns.map V.bl
  | _, _, _, .nil, h => by cases h; rfl
  | .bl i :: r, _, _, .cons hd t, h => by
    simp only [Qi.dBools] at h
    cases q : Qi.dBools r with
    | none => rw [q] at h; cases h
    | some ms =>
      rw [q] at h
      cases h
      rw [List.map_cons, RDs.dBools t q, hd.of_bl]
  | .non :: _, _, _, .cons _ _, h => by cases h
  | .int _ :: _, _, _, .cons _ _, h => by cases h
  | .str _ :: _, _, _, .cons _ _, h => by cases h
  | .tup _ :: _, _, _, .cons _ _, h => by cases h
  | .lst _ :: _, _, _, .cons _ _, h => by cases h
  | .dic _ :: _, _, _, .cons _ _, h => by cases h
  | .ref _ :: _, _, _, .cons _ _, h => by cases h
  | .obj _ _ :: _, _, _, .cons _ _, h => by cases h
  | .exc _ _ :: _, _, _, .cons _ _, h => by cases h
  | .clo _ _ :: _, _, _, .cons _ _, h => by cases h
  | .scr _ :: _, _, _, .cons _ _, h => by cases h
def oAll : D → Sto → Res D
  | .lst l, S => match dBools l with
    | some bs => .ok (.bl (bs.all id)) S
    | none => .stuck
  | _, _ => .stuck
def oAny : D → Sto → Res D
  | .lst l, S => match dBools l with
    | some bs => .ok (.bl (bs.any id)) S
    | none => .stuck
  | _, _ => .stuck
def oSum : D → Sto → Res D
  | .lst l, S => match dInts l with
    | some ns => .ok (.int ns.sum) S
    | none => .stuck
  | _, _ => .stuck
theorem pr_all : Pr1 K (r1 (rAll K)) oAll := by
  intro Z g j σ S σV H x d Q hK R hd h
  cases d with
  | lst l =>
    obtain ⟨p, vs, rfl, hs, r⟩ := hd.lst
    simp only [oAll] at h
    cases q : dBools l with
    | none => rw [q] at h; exact h.elim
    | some bs =>
      rw [q] at h
      have e := r.dBools q
      subst e
      exact ⟨p, bs, rfl, .of hs, h j _ H R Stp.refl (.bl _)⟩
  | _ => exact h.elim
theorem pr_any : Pr1 K (r1 (rAny K)) oAny := by
  intro Z g j σ S σV H x d Q hK R hd h
  cases d with
  | lst l =>
    obtain ⟨p, vs, rfl, hs, r⟩ := hd.lst
    simp only [oAny] at h
    cases q : dBools l with
    | none => rw [q] at h; exact h.elim
    | some bs =>
      rw [q] at h
      have e := r.dBools q
      subst e
      exact ⟨p, bs, rfl, .of hs, h j _ H R Stp.refl (.bl _)⟩
  | _ => exact h.elim
theorem pr_sum : Pr1 K (r1 (rSum K)) oSum := by
  intro Z g j σ S σV H x d Q hK R hd h
  cases d with
  | lst l =>
    obtain ⟨p, vs, rfl, hs, r⟩ := hd.lst
    simp only [oSum] at h
    cases q : dInts l with
    | none => rw [q] at h; exact h.elim
    | some bs =>
      rw [q] at h
      have e := r.dInts q
      subst e
      exact ⟨p, bs, rfl, .of hs, h j _ H R Stp.refl (.int _)⟩
  | _ => exact h.elim
end Qi
namespace Qi
open PySem PySem.Spec L2 PyProof.Rows
section
variable {prog : Program} {w : World} {A : Around} {E : Value → Shared → Prop} {s : Shared}
theorem sliceApplied_rev {sl : Addr} {vk : Value} {n : Nat} {Q : Int × Int × Nat → Shared → Prop} (hs : s.heap.IsSliceOf sl .none .none vk) (pk : IsPart vk (some (-1)))
    (h : Q ((n : Int) - 1, -1, n) s) : wpAny (model prog w) A (Builtin.Slice.sliceApplied (.ref sl) (pure (n : Int))) Q E s := by
  obtain ⟨os, hos, hcs, hds⟩ := id hs
  unfold Builtin.Slice.sliceApplied Builtin.Slice.sliceFields
  refine wpAny_bind (wpAny_bind (wpAny_field hos hds (x := .none) rfl (wpAny_bind (wpAny_field hos hds (x := .none) rfl (wpAny_bind (wpAny_field hos hds (x := vk) rfl (wpAny_pure ?_)))))))
  refine wpAny_bind (HT.slicePart_ pk ?_)
  show wpAny _ _ (if ((-1 : Int) == 0) = true then _ else _) _ _ s
  rw [if_neg (by decide)]
  refine wpAny_bind (HT.slicePart_ .none (wpAny_bind (HT.slicePart_ .none (wpAny_bind (wpAny_pure ?_)))))
  have e : Builtin.Slice.slicePlaces ((n : Int) - 1) (-1) (-1) = n := by
    unfold Builtin.Slice.slicePlaces
    have h1 : ¬ ((-1 : Int) > 0) := by decide
    rw [if_neg h1, show (- -1 : Int) = 1 by decide, Int.ediv_one]
    split <;> omega
  show wpAny _ _ (pure ((n : Int) - 1, (-1 : Int), Builtin.Slice.slicePlaces ((n : Int) - 1) (-1) (-1))) _ _ s
  rw [e]
  exact wpAny_pure h
theorem fm_congr {α β : Type} {f g : α → Option β} : ∀ {l : List α}, (∀ x ∈ l, f x = g x) → l.filterMap f = l.filterMap g
  | [], _ => rfl
  | a :: l, h => by rw [List.filterMap_cons, List.filterMap_cons, h a List.mem_cons_self, fm_congr fun x hx => h x (List.mem_cons_of_mem _ hx)]
theorem pick_rev (xs : Array Value) : ((List.range xs.size).filterMap fun (k : Nat) => xs[(((xs.size : Int) - 1) + (k : Int) * -1).toNat]?).toArray = xs.toList.reverse.toArray := by
  have e : ∀ k ∈ List.range xs.size, xs[(((xs.size : Int) - 1) + (k : Int) * -1).toNat]? = xs[xs.size - 1 - k]? := fun k hk => by
    have := List.mem_range.mp hk
    rw [show (((xs.size : Int) - 1) + (k : Int) * -1).toNat = xs.size - 1 - k by omega]
  rw [fm_congr e]
  have e2 : (fun k => xs[xs.size - 1 - k]?) = (xs[·]?) ∘ fun k => xs.size - 1 - k := rfl
  rw [e2, ← List.filterMap_map, PySem.W.krv_range, List.filterMap_reverse, PySem.W.krv_all]
theorem getItem_tuple_rev {t sl : Addr} {items : Array Value} {vk : Value} {Q : Value → Shared → Prop} (ht : IsTup s.heap t items) (hs : s.heap.IsSliceOf sl .none .none vk) (pk : IsPart vk (some (-1)))
    (h : Q (.ref s.heap.objs.size) { s with heap := s.heap.push { cls := .type "tuple", data := .seq items.toList.reverse.toArray } })
    (hsz : items.size ≤ sizeLine) : wpAny (model prog w) A (getItem (.ref t) (.ref sl)) Q E s := by
  have htake : sizeOk (.seq items.toList.reverse.toArray) := by
    show items.toList.reverse.toArray.size ≤ sizeLine
    rw [List.size_toArray, List.length_reverse, Array.length_toList]
    exact hsz
  obtain ⟨os, hos, hcs, hds⟩ := id hs
  have hTs : s.TypeIs (.ref sl) "slice" := ⟨os, hos, hcs⟩
  unfold getItem
  try with_reducible refine wpAny_holding ?_
  first | refine wpAny_bind (wpAny_pure ?_) | skip
  refine wpAny_bind (wpAny_sequenceKey ht.typeIs (by decide) ?_)
  refine wpAny_bind (wpAny_callSpecial?_slot (name := Str.ofString "__getitem__") ht.typeIs PyProof.Rows.slot_tuple_getitem
    (wpAny_call_entry PyProof.Rows.slot_tuple_getitem ht.typeIs entry_tuple_getitem ?_ (args_tuple_getitem _ _)))
  show wpAny _ _ (Builtin.Tuple.tupleItemsOf (.ref t) >>= _) _ _ s
  refine wpAny_bind (tupleItemsOf_ ht ?_)
  refine wpAny_bind (wpAny_typeOf hTs ?_)
  rw [if_pos (by decide)]
  refine wpAny_bind (sliceApplied_rev hs pk ?_)
  have hno : ¬ ((((items.size : Int) - 1) == 0 && (-1 : Int) == 1 && items.size == items.size) = true) := by
    intro q
    rw [Bool.and_eq_true, Bool.and_eq_true] at q
    exact absurd (eq_of_beq q.1.2) (by decide)
  show wpAny _ _ (if (((items.size : Int) - 1) == 0 && (-1 : Int) == 1 && items.size == items.size) = true then _ else _) _ _ s
  rw [if_neg hno, pick_rev]
  first
    | exact wpAny_bind (m := Builtin.Tuple.tupleExact _) (wpAny_newObj_type (wpAny_pure ⟨_, rfl, wpAny_pure h⟩) htake)
    | exact wpAny_bind (m := Builtin.Tuple.tupleExact _) (wpAny_newObj_type (wpAny_bind (wpAny_pure (wpAny_pure ⟨_, rfl, wpAny_pure h⟩))) htake)
    | exact wpAny_bind (wpAny_bind (m := Builtin.Tuple.tupleExact _) (wpAny_newObj_type (wpAny_pure (wpAny_pure ⟨_, rfl, wpAny_pure h⟩)) htake))
    | exact wpAny_bind (wpAny_bind (m := Builtin.Tuple.tupleExact _) (wpAny_newObj_type (wpAny_pure ⟨_, rfl, wpAny_pure h⟩) htake))
end
section
variable {X : Cx} {Z : Env1} {e : Expr} {ma : Ex} {pos : Pos}
def tRevT (K : PySem.W.Frag) (te : TE) : TE := fun σ H Q => te σ H fun x H1 => ∃ a xs, x = .ref a ∧ SqT K H1 a xs ∧ ∀ p, H1 p = none → Q (.ref p) (upd H1 p (.tup xs.reverse))
theorem pe_revT {te : TE} {k : Nat} {p1 p2 p3 : Pos} (he : PE X e te) : PE X (.Subscript e (.Slice none none (some (.UnaryOp .USub (.Constant (.int 1) k p1) p2)) p3) pos) (tRevT X.K te) := by
  refine ⟨fun pins s σ H Q I h => ?_⟩
  refine Subscript_ (thn (he.run pins s σ H _ I h) fun v s1 ⟨x, H1, I1, r1, q1⟩ => ?_)
  obtain ⟨a, xs, ex, hx, q⟩ := q1
  subst ex
  cases r1
  have hst : PO X (some (.UnaryOp .USub (.Constant (.int 1) k p1) p2)) (tPart (tUn (rU fun i => .int (-i)) (tC (.int 1)))) := po_some (pe_un un_neg pe_int)
  refine wpAny_Slice (thn (po_none.run pins s1 σ H1 (fun o H2 => o = none ∧ H2 = H1) I1 ⟨rfl, rfl⟩) fun vl s2 ⟨l, H2, I2, pl, el, e2⟩ => ?_)
  subst el e2
  refine thn (po_none.run pins s2 σ H2 (fun o H3 => o = none ∧ H3 = H2) I2 ⟨rfl, rfl⟩) fun vu s3 ⟨u, H3, I3, pu, eu, e3⟩ => ?_
  subst eu e3
  refine thn (hst.run pins s3 σ H3 (fun o H4 => o = some (-1) ∧ H4 = H3) I3 ⟨1, rfl, -1, rfl, rfl, rfl⟩) fun vs s4 ⟨o, H4, I4, ps, eo, e4⟩ => ?_
  subst eo e4
  cases pl
  cases pu
  have I5 : Inv X pins σ H4 { s4 with heap := s4.heap.push { cls := .type "slice", data := .fields #[.none, .none, vs] } } := I4.kept (t' := s4.toks) fun b ob q => Heap.get?_push_of_some _ q
  obtain ⟨its, r, ht, hz⟩ := I5.tuple hx
  have hlen := r.length
  show wpAny (model X.prog X.w) X.A (subscriptTail e (.Slice none none (some (.UnaryOp .USub (.Constant (.int 1) k p1) p2)) p3) (.ref a) (.ref s4.heap.objs.size)) (EP X pins σ Q) X.xe { s4 with heap := s4.heap.push { cls := .type "slice", data := .fields #[.none, .none, vs] } }
  refine tail_any (ops := [.ref a, .ref s4.heap.objs.size]) ht.typeIs PyProof.Rows.slot_tuple_getitem.lookup ?_ (by with_unfolding_all rfl)
  refine getItem_tuple_rev ht (Heap.IsSliceOf.new _ .none .none vs) ps ?_ (by rw [List.size_toArray, ← hlen]; exact hz)
  refine ⟨.ref _, _, I5.laid (t' := s4.toks) (o := .tup xs.reverse) (fun b ob q => Heap.get?_push_of_some _ q) (Nat.le_refl _) ?_, rfl, q _ (I5.hok.fresh (Nat.le_refl _))⟩
  exact ⟨by rw [List.length_reverse]; exact hz, _, r.reverse, IsTup.new _ _⟩
def oRevT : D → Sto → Res D
  | .tup l, S => .ok (.tup l.reverse) S
  | _, _ => .stuck
theorem de_revT {k : Nat} {p1 p2 p3 : Pos} (he : DB X Z e ma) (hK : Z.K.K = X.K := by rfl) : DE X Z (.Subscript e (.Slice none none (some (.UnaryOp .USub (.Constant (.int 1) k p1) p2)) p3) pos) (x1 oRevT ma) :=
  PE.imp (pe_revT he) fun σV H Q => by
    rintro ⟨g, j, σ, S, R, h⟩
    refine ⟨g, j, σ, S, R, OutR.bind (fun d S1 j1 x H1 R1 s1 rd h1 => ?_) h⟩
    have rd := rd.rsv R1
    generalize rsv S1 d = d at rd h1
    cases d with
    | tup l =>
      have rd4 := rd.rd (by intro _ z; cases z)
      obtain ⟨p, vs, rfl, hs, r⟩ := rd4.of_tup
      rw [← hK]
      exact ⟨p, vs, rfl, hs, fun q hq => out_tup R1 (by rw [List.length_reverse]; exact rd4.len_tup) r.reverse h1 hq⟩
    | _ => exact h1.elim
end
end Qi
namespace Qi
open PySem PySem.Spec L2
variable {X : Cx} {Z : Env1} {a b e : Expr} {ma mb : Ex} {pos : Pos}
section
variable (Z : Env1) (g : Gd) (j : Nat → Addr) (σ : Sl) (S : Sto) (σV : L2.St) (H : Hp)
/-- behind a def's end: no slots -/
abbrev RetR : Prop := Rel Z.K Z.lin g j [] S [] H
abbrev w0 : Wo := wo Z.K Z.lin g.B j [] S [] H
def OutC (D : Ends) : Res Fl → Prop
  | .ok (.next σ') S' => ∀ j' σV' H', RelZ Z g j' σ' S' σV' H' → (wz Z g j σ S σV H).Le (wz Z g j' σ' S' σV' H') → D.nx σV' H'
  | .ok (.brk σ') S' => ∀ j' σV' H', RelZ Z g j' σ' S' σV' H' → (wz Z g j σ S σV H).Le (wz Z g j' σ' S' σV' H') → D.bk σV' H'
  | .ok (.cnt σ') S' => ∀ j' σV' H', RelZ Z g j' σ' S' σV' H' → (wz Z g j σ S σV H).Le (wz Z g j' σ' S' σV' H') → D.ct σV' H'
  | .ok (.ret d) S' => ∀ j' v H', RetR Z g j' S' H' → RD (w0 Z g j' S' H') d v → D.rt v H'
  | .exc x S' => ∀ j' cls dd σV' H', RetR Z g j' S' H' → RX (w0 Z g j' S' H') x cls dd → Z.W cls dd σV' H'
  | .stuck => False
end
def lC (Z : Env1) (m : Co) : TS := fun D σV H => ∃ g j σ S, RelZ Z g j σ S σV H ∧ OutC Z g j σ S σV H D (m σ S)
abbrev DS (X : Cx) (Z : Env1) (st : Stmt) (m : Co) : Prop := PS X st (lC Z m)
abbrev DSs (X : Cx) (Z : Env1) (st : List Stmt) (m : Co) : Prop := PSs X st (lC Z m)
section
variable {g : Gd} {j j' : Nat → Addr} {σ σ' : Sl} {S S' : Sto} {σV σV' : L2.St} {H H' : Hp} {D : Ends}
theorem noLin {lin : Nat → Bool} {i : Nat} {a : Addr} (h : LinA lin [] [] i a) : False := by
  obtain ⟨_, _, h⟩ := h
  simp at h
theorem le_drop : (wz Z g j σ S σV H).Le (w0 Z g j S H) :=
  ⟨rfl, rfl, fun a o _ h f => ⟨h, fun z => f (z.imp (fun y => y) fun y => y.imp (fun u => u) fun ⟨i, u⟩ => (noLin u).elim)⟩, fun _ _ => rfl, Nat.le_refl _⟩
theorem Rel.drop (R : RelZ Z g j σ S σV H) : RetR Z g j S H :=
  ⟨rfl, R.inj, fun i a n h => (noLin h).elim, fun i i' a h => (noLin h).elim, R.oc, fun i a h => (noLin h).elim, fun a h => R.trk a (h.imp (fun y => y) fun y => y.imp (fun u => u) fun ⟨i, u⟩ => (noLin u).elim),
    fun i d h => by simp at h, fun n c e => (R.cells n c e).mono le_drop fun o _ h => h, R.frame, R.newc, fun i a h => (noLin h).elim, R.n0, R.ag, R.dom, R.tabs⟩
theorem RX.mono {w w' : Wo} {x : Qi.D} {cls : Value} {dd : Option Addr} (le : w.Le w') (h : RX w x cls dd) : RX w' x cls dd := by
  obtain ⟨c, fs, rfl, h1, h2⟩ := h
  refine ⟨c, fs, rfl, by rw [le.kc]; exact h1, ?_⟩
  cases q : excField c with
  | none => rw [q] at h2; exact h2
  | some f =>
    rw [q] at h2
    obtain ⟨d, y, v, e1, e2, e3, nf, r⟩ := h2
    exact ⟨d, y, v, e1, e2, (le.keep _ _ dt_xd e3 nf).1, (le.keep _ _ dt_xd e3 nf).2, r.mono le⟩
/-- from an expression to the rest of a statement -/
theorem OutC.bind {α β : Type} {rel : Wo → α → β → Prop} {Q' : β → Hp → Prop} {f : α → Sto → Res Fl}
    (k : ∀ d S1 j1 v H1, RelZ Z g j1 σ S1 σV H1 → Stp j S.length H j1 S1.length H1 → rel (wz Z g j1 σ S1 σV H1) d v → OutC Z g j1 σ S1 σV H1 D (f d S1) → Q' v H1) :
    ∀ {r : Res α}, OutC Z g j σ S σV H D (r.bind f) → OutR Z g j σ S σV H rel Q' r
  | .ok d S1, h => fun j1 v H1 R st rd => k d S1 j1 v H1 R st rd (by
      have h : OutC Z g j σ S σV H D (f d S1) := h
      generalize f d S1 = r at h
      match r, h with
      | .ok (.next σ') S', h => exact fun j' σV' H' R' le => h j' σV' H' R' (st.wle.trans le)
      | .ok (.brk σ') S', h => exact fun j' σV' H' R' le => h j' σV' H' R' (st.wle.trans le)
      | .ok (.cnt σ') S', h => exact fun j' σV' H' R' le => h j' σV' H' R' (st.wle.trans le)
      | .ok (.ret d) S', h => exact h
      | .exc x S', h => exact h
      | .stuck, h => exact h)
  | .exc x S1, h => fun j' cls dd H' R _ rx => h j' cls dd σV H' R.drop (rx.mono le_drop)
  | .stuck, h => h
theorem OutC.le (le : (wz Z g j σ S σV H).Le (wz Z g j' σ' S' σV' H')) : ∀ {r : Res Fl}, OutC Z g j σ S σV H D r → OutC Z g j' σ' S' σV' H' D r
  | .ok (.next _) _, h => fun j' σV' H' R' l => h j' σV' H' R' (le.trans l)
  | .ok (.brk _) _, h => fun j' σV' H' R' l => h j' σV' H' R' (le.trans l)
  | .ok (.cnt _) _, h => fun j' σV' H' R' l => h j' σV' H' R' (le.trans l)
  | .ok (.ret _) _, h => h
  | .exc _ _, h => h
  | .stuck, h => h
end
def cNil : Co := fun σ S => .ok (.next σ) S
def cSeq (m n : Co) : Co := fun σ S => (m σ S).bind fun f S1 => match f with
  | .next σ1 => n σ1 S1
  | f => .ok f S1
theorem ds_nil : DSs X Z [] cNil := PSs.imp pss_nil fun D σV H => by
  rintro ⟨g, j, σ, S, R, h⟩
  exact h j σV H R (Wo.Le.refl _)
theorem lC_seq {m n : Co} {D : Ends} {σV : L2.St} {H : Hp} (h : lC Z (cSeq m n) D σV H) : lC Z m { D with nx := lC Z n D } σV H := by
  obtain ⟨g, j, σ, S, R, h⟩ := h
  refine ⟨g, j, σ, S, R, ?_⟩
  unfold cSeq at h
  generalize m σ S = r at h
  match r, h with
  | .ok (.next σ1) S1, h => exact fun j1 σV1 H1 R1 le => ⟨g, j1, σ1, S1, R1, OutC.le le h⟩
  | .ok (.brk σ1) S1, h => exact h
  | .ok (.cnt σ1) S1, h => exact h
  | .ok (.ret d) S1, h => exact h
  | .exc x S1, h => exact h
  | .stuck, h => exact h
theorem ds_cons {st : Stmt} {rest : List Stmt} {m n : Co} (h1 : DS X Z st m) (h2 : DSs X Z rest n) : DSs X Z (st :: rest) (cSeq m n) := PSs.imp (pss_cons h1 h2) fun D σV H h => lC_seq h
theorem ds_one {st : Stmt} {m : Co} (h1 : DS X Z st m) : DSs X Z [st] m := pss_one h1
theorem ds_pass : DS X Z (.Pass pos) cNil := PS.imp ps_pass fun D σV H => by
  rintro ⟨g, j, σ, S, R, h⟩
  exact h j σV H R (Wo.Le.refl _)
def cBrk : Co := fun σ S => .ok (.brk σ) S
theorem ds_break : DS X Z (.Break pos) cBrk := PS.imp ps_break fun D σV H => by
  rintro ⟨g, j, σ, S, R, h⟩
  exact h j σV H R (Wo.Le.refl _)
def cRet (m : Ex) : Co := fun σ S => (m σ S).bind fun d S1 => .ok (.ret d) S1
theorem ds_ret (h : DE X Z e ma) : DS X Z (.Return (some e) pos) (cRet ma) := PS.imp (ps_ret h) fun D σV H => by
  rintro ⟨g, j, σ, S, R, h⟩
  refine ⟨g, j, σ, S, R, OutC.bind (fun d S1 j1 v H1 R1 s1 rd h1 => ?_) h⟩
  exact h1 j1 v H1 R1.drop (rd.mono le_drop)
def cRetN : Co := fun σ S => .ok (.ret .non) S
theorem ds_retN : DS X Z (.Return none pos) cRetN := PS.imp ps_retN fun D σV H => by
  rintro ⟨g, j, σ, S, R, h⟩
  exact h j .non H R.drop .non
/-- return x, x linear -/
theorem ds_retL {i : Nat} (hv : PE X e (tVar i)) (hl : Z.lin i = true) : DS X Z (.Return (some e) pos) (cRet (xVL i)) := PS.imp (ps_ret hv) fun D σV H => by
  rintro ⟨g, j, σ, S, R, h⟩
  unfold cRet at h
  rcases xVL_ok (i := i) (σ := σ) (S := S) with ⟨l, e1, e2⟩ | e2
  · rw [e2] at h
    obtain ⟨v, ev, h1, h2⟩ := R.slots i _ e1
    have hv := h2 hl
    refine ⟨v, ev, h j v H R.drop ?_⟩
    cases hv with
    | lst hh l r =>
      refine .lst hh (fun z => ?_) l (r.mono le_drop)
      have L : LinA Z.lin σ σV i _ := ⟨hl, ⟨_, e1, rfl⟩, ev⟩
      rcases z with z | ⟨n, hn, z⟩ | ⟨k, z⟩
      · exact R.ol i _ L z
      · exact R.lc i _ n L hn z
      · exact (noLin z).elim
  · rw [e2] at h; exact h.elim
def cExp (m : Ex) : Co := fun σ S => (m σ S).bind fun _ S1 => .ok (.next σ) S1
theorem ds_exp (h : DE X Z e ma) (hs : swapsWith e none pos.line X.env = pure false := by rfl) : DS X Z (.Expr e pos) (cExp ma) := PS.imp (ps_expr h hs) fun D σV H => by
  rintro ⟨g, j, σ, S, R, h⟩
  refine ⟨g, j, σ, S, R, OutC.bind (fun d S1 j1 v H1 R1 s1 rd h1 => ?_) h⟩
  exact h1 j1 σV H1 R1 (Wo.Le.refl _)
def cIf (t : Ts) (m n : Co) : Co := fun σ S => (t σ S).bind fun c S1 => if c = true then m σ S1 else n σ S1
theorem ds_if {t : Ts} {xs ys : List Stmt} {m n : Co} (hc : DT X Z e t) (ha : DSs X Z xs m) (hb : DSs X Z ys n) : DS X Z (.If e xs ys pos) (cIf t m n) := PS.imp (ps_if hc ha hb) fun D σV H => by
  rintro ⟨g, j, σ, S, R, h⟩
  refine ⟨g, j, σ, S, R, OutC.bind (fun d S1 j1 v H1 R1 s1 rd h1 => ?_) h⟩
  cases (show d = v from rd)
  cases d with
  | true => rw [if_pos rfl] at h1 ⊢; exact ⟨g, j1, σ, S1, R1, h1⟩
  | false => rw [if_neg Bool.false_ne_true] at h1 ⊢; exact ⟨g, j1, σ, S1, R1, h1⟩
section
variable {K : Kx} {lin : Nat → Bool} {g : Gd} {j : Nat → Addr} {σ : Sl} {S : Sto} {σV : L2.St} {H : Hp} {i : Nat} {d : D} {v : V}
theorem linA_set (hl : lin i = false) {k : Nat} {a : Addr} : LinA lin (σ.set i (some d)) (σV.set i (some v)) k a ↔ LinA lin σ σV k a := by
  unfold LinA
  by_cases hk : k = i
  · subst hk
    rw [hl]
    simp
  · rw [List.getElem?_set_ne (Ne.symm hk), List.getElem?_set_ne (Ne.symm hk)]
theorem ff_set (hl : lin i = false) {B : Addr → Prop} {N : Nat} {a : Addr} : FF lin B j N (σ.set i (some d)) (σV.set i (some v)) a ↔ FF lin B j N σ σV a := by
  unfold FF
  constructor
  · rintro (h | h | ⟨k, h⟩)
    · exact .inl h
    · exact .inr (.inl h)
    · exact .inr (.inr ⟨k, (linA_set hl).mp h⟩)
  · rintro (h | h | ⟨k, h⟩)
    · exact .inl h
    · exact .inr (.inl h)
    · exact .inr (.inr ⟨k, (linA_set hl).mpr h⟩)
theorem le_set (hl : lin i = false) {B : Addr → Prop} : (wo K lin B j σ S σV H).Le (wo K lin B j (σ.set i (some d)) S (σV.set i (some v)) H) :=
  ⟨rfl, rfl, fun a o _ h f => ⟨h, fun z => f ((ff_set hl).mp z)⟩, fun _ _ => rfl, Nat.le_refl _⟩
theorem Rel.set (R : Rel K lin g j σ S σV H) (hl : lin i = false) (rd : RD (wo K lin g.B j σ S σV H) d v) : Rel K lin g j (σ.set i (some d)) S (σV.set i (some v)) H where
  len := by rw [List.length_set, List.length_set, R.len]
  inj := R.inj
  lc := fun k a n h => R.lc k a n ((linA_set hl).mp h)
  ll := fun k k' a h h' => R.ll k k' a ((linA_set hl).mp h) ((linA_set hl).mp h')
  oc := R.oc
  ol := fun k a h => R.ol k a ((linA_set hl).mp h)
  trk := fun a h => R.trk a ((ff_set hl).mp h)
  slots := fun k d' e => by
    by_cases hk : k = i
    · subst hk
      have hlt : k < σ.length := by
        have := (List.getElem?_eq_some_iff.mp e).1
        rwa [List.length_set] at this
      rw [List.getElem?_set_self hlt] at e
      cases e
      refine ⟨v, ?_, fun _ => rd.mono (le_set hl), fun z => by rw [hl] at z; cases z⟩
      rw [List.getElem?_set_self (by rw [← R.len]; exact hlt)]
    · rw [List.getElem?_set_ne (Ne.symm hk)] at e
      obtain ⟨v', ev, h1, h2⟩ := R.slots k d' e
      refine ⟨v', ?_, fun z => (h1 z).mono (le_set hl), fun z => (h2 z).mono (le_set hl) fun a o _ _ _ h => h⟩
      rw [List.getElem?_set_ne (Ne.symm hk)]
      exact ev
  cells := fun n c e => (R.cells n c e).mono (le_set hl) fun o _ h => h
  frame := R.frame
  newc := R.newc
  newl := fun k a h => R.newl k a ((linA_set hl).mp h)
  n0 := R.n0
  ag := R.ag
  dom := R.dom
  tabs := R.tabs
end
def cSet (i : Nat) (m : Ex) : Co := fun σ S => (m σ S).bind fun d S1 => .ok (.next (σ.set i (some d))) S1
theorem lC_set {i : Nat} {D : Ends} {σV : L2.St} {H : Hp} (hl : Z.lin i = false) (h : lC Z (cSet i ma) D σV H) : tAsg (lE Z ma) (gName i) D σV H := by
  obtain ⟨g, j, σ, S, R, h⟩ := h
  refine ⟨g, j, σ, S, R, OutC.bind (fun d S1 j1 v H1 R1 s1 rd h1 => ?_) h⟩
  exact h1 j1 _ H1 (R1.set hl rd) (le_set hl)
/-- x = e, x an ordinary name; hr: the rule of HandS that fits e -/
theorem ds_set {i : Nat} {st : Stmt} (hr : PS X st (tAsg (lE Z ma) (gName i))) (hl : Z.lin i = false) : DS X Z st (cSet i ma) := PS.imp hr fun D σV H h => lC_set hl h
section
variable {K : Kx} {lin : Nat → Bool} {g : Gd} {j : Nat → Addr} {σ : Sl} {S : Sto} {σV : L2.St} {H : Hp} {i : Nat} {a : Addr}
theorem Rel.fresh (R : Rel K lin g j σ S σV H) (h : H a = none) : g.H0 a = none := by
  cases q : g.H0 a with
  | none => rfl
  | some o =>
    obtain ⟨o', e'⟩ := R.dom a o q
    rw [h] at e'; cases e'
theorem linA_setL {ds : List D} {k : Nat} {b : Addr} (h : LinA lin (σ.set i (some (.lst ds))) (σV.set i (some (.ref a))) k b) : (k = i ∧ b = a) ∨ (k ≠ i ∧ LinA lin σ σV k b) := by
  by_cases hk : k = i
  · subst hk
    obtain ⟨h1, h2, h3⟩ := h
    have hlt : k < σV.length := by
      have := (List.getElem?_eq_some_iff.mp h3).1
      rwa [List.length_set] at this
    rw [List.getElem?_set_self hlt] at h3
    cases h3
    exact .inl ⟨rfl, rfl⟩
  · obtain ⟨h1, h2, h3⟩ := h
    rw [List.getElem?_set_ne (Ne.symm hk)] at h2 h3
    exact .inr ⟨hk, h1, h2, h3⟩
/-- a held list goes into a linear slot -/
theorem le_setL {ds : List D} : (wo K lin (g.hold a).B j σ S σV H).Le (wo K lin g.B j (σ.set i (some (.lst ds))) S (σV.set i (some (.ref a))) H) :=
  ⟨rfl, rfl, fun b o _ h f => ⟨h, fun z => f (by
    rcases z with z | z | ⟨k, z⟩
    · exact .inl (.inl z)
    · exact .inr (.inl z)
    · rcases linA_setL z with ⟨_, rfl⟩ | ⟨_, z⟩
      · exact .inl (.inr rfl)
      · exact .inr (.inr ⟨k, z⟩))⟩, fun _ _ => rfl, Nat.le_refl _⟩
theorem Rel.setL {ds : List D} {vs : List V} (R : Rel K lin (g.hold a) j σ S σV H) (hl : lin i = true) (ha : H a = some (.lst vs)) (hlen : ds.length ≤ sizeLine) (rd : RDs (wo K lin (g.hold a).B j σ S σV H) ds vs) (h0 : g.H0 a = none) (hb : ¬ g.B a) :
    Rel K lin g j (σ.set i (some (.lst ds))) S (σV.set i (some (.ref a))) H where
  len := by rw [List.length_set, List.length_set, R.len]
  inj := R.inj
  lc := fun k b n h hn => by
    rcases linA_setL h with ⟨_, rfl⟩ | ⟨_, h⟩
    · exact fun e => R.oc n hn (.inr e)
    · exact R.lc k b n h hn
  ll := fun k k' b h h' => by
    rcases linA_setL h with ⟨e1, e2⟩ | ⟨_, h⟩
    · rcases linA_setL h' with ⟨e3, _⟩ | ⟨_, h'⟩
      · rw [e1, e3]
      · exact (R.ol k' b h' (.inr e2)).elim
    · rcases linA_setL h' with ⟨_, e2⟩ | ⟨_, h'⟩
      · exact (R.ol k b h (.inr e2)).elim
      · exact R.ll k k' b h h'
  oc := fun n hn z => R.oc n hn (.inl z)
  ol := fun k b h z => by
    rcases linA_setL h with ⟨_, rfl⟩ | ⟨_, h⟩
    · exact hb z
    · exact R.ol k b h (.inl z)
  trk := fun b h => by
    rcases h with h | h | ⟨k, h⟩
    · exact R.trk b (.inl (.inl h))
    · exact R.trk b (.inr (.inl h))
    · rcases linA_setL h with ⟨_, rfl⟩ | ⟨_, h⟩
      · exact ⟨_, ha⟩
      · exact R.trk b (.inr (.inr ⟨k, h⟩))
  slots := fun k d' e => by
    by_cases hk : k = i
    · subst hk
      have hlt : k < σ.length := by
        have := (List.getElem?_eq_some_iff.mp e).1
        rwa [List.length_set] at this
      rw [List.getElem?_set_self hlt] at e
      cases e
      refine ⟨.ref a, ?_, fun z => absurd (hl.symm.trans z) (by decide), fun _ => .lst ha hlen (rd.mono le_setL)⟩
      rw [List.getElem?_set_self (by rw [← R.len]; exact hlt)]
    · rw [List.getElem?_set_ne (Ne.symm hk)] at e
      obtain ⟨v', ev, h1, h2⟩ := R.slots k d' e
      refine ⟨v', ?_, fun z => (h1 z).mono le_setL, fun z => (h2 z).mono le_setL fun a o _ _ _ h => h⟩
      rw [List.getElem?_set_ne (Ne.symm hk)]
      exact ev
  cells := fun n c e => (R.cells n c e).mono le_setL fun o _ h => h
  frame := R.frame
  newc := R.newc
  newl := fun k b h => by
    rcases linA_setL h with ⟨_, rfl⟩ | ⟨_, h⟩
    · exact h0
    · exact R.newl k b h
  n0 := R.n0
  ag := R.ag
  dom := R.dom
  tabs := R.tabs
end
/-- x = e, x linear, e a new list -/
def cSetL (i : Nat) (m : Ex) : Co := fun σ S => (m σ S).bind fun d S1 => match d with
  | .lst l => .ok (.next (σ.set i (some (.lst l)))) S1
  | _ => .stuck
theorem le_held {g : Gd} {j j1 : Nat → Addr} {σ : Sl} {S S1 : Sto} {σV : L2.St} {H H1 : Hp} {a : Addr} (s1 : Stp j S.length H j1 S1.length H1) (hn : H a = none) : (wz Z g j σ S σV H).Le (wz Z (g.hold a) j1 σ S1 σV H1) :=
  ⟨rfl, rfl, fun b o t e f => ⟨(s1.wle (K := Z.K) (lin := Z.lin) (B := g.B) (σ := σ) (σV := σV)).keep b o t e f |>.1, fun z => by
      rcases z with (z | z) | z | z
      · exact f (.inl z)
      · rw [z] at e
        have e' : H a = some o := e
        rw [hn] at e'; cases e'
      · exact ((s1.wle (K := Z.K) (lin := Z.lin) (B := g.B) (σ := σ) (σV := σV)).keep b o t e f).2 (.inr (.inl z))
      · exact f (.inr (.inr z))⟩, s1.ag, s1.le⟩
theorem notB {g : Gd} {j : Nat → Addr} {σ : Sl} {S : Sto} {σV : L2.St} {H : Hp} {a : Addr} (R : RelZ Z g j σ S σV H) (hn : H a = none) : ¬ g.B a := fun z => by
  obtain ⟨o, e⟩ := R.trk a (.inl z)
  rw [hn] at e; cases e
theorem lC_setL {i : Nat} {D : Ends} {σV : L2.St} {H : Hp} (hl : Z.lin i = true) (h : lC Z (cSetL i ma) D σV H) : tAsg (lF Z ma) (gName i) D σV H := by
  obtain ⟨g, j, σ, S, R, h⟩ := h
  refine ⟨g, j, σ, S, R, ?_⟩
  unfold cSetL at h
  generalize ma σ S = r at h
  match r, h with
  | .ok (.lst ds) S1, h =>
    intro j1 a vs H1 ha R1 s1 hlen rd hn
    exact h j1 _ H1 (R1.setL (i := i) hl ha hlen rd (R.fresh hn) (notB R hn)) ((le_held s1 hn).trans le_setL)
  | .exc x S1, h => exact fun j' cls dd H' R' _ rx => h j' cls dd σV H' R'.drop (rx.mono le_drop)
  | .stuck, h => exact h
  | .ok .non _, h => exact h
  | .ok (.bl _) _, h => exact h
  | .ok (.int _) _, h => exact h
  | .ok (.str _) _, h => exact h
  | .ok (.tup _) _, h => exact h
  | .ok (.dic _) _, h => exact h
  | .ok (.ref _) _, h => exact h
  | .ok (.obj _ _) _, h => exact h
  | .ok (.exc _ _) _, h => exact h
  | .ok (.clo _ _) _, h => exact h
  | .ok (.scr _) _, h => exact h
theorem ds_setL {i : Nat} {st : Stmt} (hr : PS X st (tAsg (lF Z ma) (gName i))) (hl : Z.lin i = true) : DS X Z st (cSetL i ma) := PS.imp hr fun D σV H h => lC_setL hl h
section
variable {K : Kx} {lin : Nat → Bool} {g : Gd} {j : Nat → Addr} {σ : Sl} {S : Sto} {σV : L2.St} {H : Hp} {i : Nat} {a : Addr} {ds ds' : List D} {vs' : List V}
theorem linA_upd (e1 : σ[i]? = some (some (.lst ds))) {k : Nat} {b : Addr} : LinA lin (σ.set i (some (.lst ds'))) σV k b ↔ LinA lin σ σV k b := by
  unfold LinA
  by_cases hk : k = i
  · subst hk
    have hlt := (List.getElem?_eq_some_iff.mp e1).1
    rw [List.getElem?_set_self hlt, e1]
    simp [own]
  · rw [List.getElem?_set_ne (Ne.symm hk)]
theorem ff_upd (e1 : σ[i]? = some (some (.lst ds))) {B : Addr → Prop} {N : Nat} {b : Addr} : FF lin B j N (σ.set i (some (.lst ds'))) σV b ↔ FF lin B j N σ σV b := by
  unfold FF
  constructor
  · rintro (h | h | ⟨k, h⟩)
    · exact .inl h
    · exact .inr (.inl h)
    · exact .inr (.inr ⟨k, (linA_upd e1).mp h⟩)
  · rintro (h | h | ⟨k, h⟩)
    · exact .inl h
    · exact .inr (.inl h)
    · exact .inr (.inr ⟨k, (linA_upd e1).mpr h⟩)
theorem le_upd (L : LinA lin σ σV i a) (e1 : σ[i]? = some (some (.lst ds))) {B : Addr → Prop} {o' : HO} : (wo K lin B j σ S σV H).Le (wo K lin B j (σ.set i (some (.lst ds'))) S σV (upd H a o')) :=
  ⟨rfl, rfl, fun b o _ h f => ⟨by
    show upd H a o' b = _
    rw [upd_ne (fun z => f (by rw [z]; exact .inr (.inr ⟨i, L⟩)))]
    exact h, fun z => f ((ff_upd e1).mp z)⟩, fun _ _ => rfl, Nat.le_refl _⟩
theorem Rel.updL (R : Rel K lin g j σ S σV H) (L : LinA lin σ σV i a) (e1 : σ[i]? = some (some (.lst ds))) (hlen : ds'.length ≤ sizeLine) (rd : RDs (wo K lin g.B j σ S σV H) ds' vs') : Rel K lin g j (σ.set i (some (.lst ds'))) S σV (upd H a (.lst vs')) where
  dom := fun b o e => by
    obtain ⟨o', e'⟩ := R.dom b o e
    by_cases hb : b = a
    · subst hb; exact ⟨_, upd_same⟩
    · exact ⟨o', by rw [upd_ne hb]; exact e'⟩
  tabs := by
    obtain ⟨v, ev, _, h2⟩ := R.slots i _ e1
    obtain ⟨h3, _, h4⟩ := L
    rw [ev] at h4
    cases h4
    cases h2 h3 with
    | lst hh l r => exact tabs_upd R.tabs hh pl_lst
  len := by rw [List.length_set, R.len]
  inj := R.inj
  lc := fun k b n h => R.lc k b n ((linA_upd e1).mp h)
  ll := fun k k' b h h' => R.ll k k' b ((linA_upd e1).mp h) ((linA_upd e1).mp h')
  oc := R.oc
  ol := fun k b h => R.ol k b ((linA_upd e1).mp h)
  trk := fun b h => by
    obtain ⟨o, e⟩ := R.trk b ((ff_upd e1).mp h)
    by_cases hb : b = a
    · subst hb; exact ⟨_, upd_same⟩
    · exact ⟨o, by rw [upd_ne hb]; exact e⟩
  slots := fun k d' e => by
    by_cases hk : k = i
    · subst hk
      have hlt := (List.getElem?_eq_some_iff.mp e1).1
      rw [List.getElem?_set_self hlt] at e
      cases e
      refine ⟨.ref a, L.2.2, fun z => absurd (L.1.symm.trans z) (by decide), fun _ => .lst upd_same hlen (rd.mono (le_upd L e1))⟩
    · rw [List.getElem?_set_ne (Ne.symm hk)] at e
      obtain ⟨v', ev, h1, h2⟩ := R.slots k d' e
      refine ⟨v', ev, fun z => (h1 z).mono (le_upd L e1), fun z => (h2 z).mono (le_upd L e1) fun b o eb ho _ h => ?_⟩
      show upd H a _ b = _
      rw [upd_ne]
      · exact h
      · intro z
        subst eb
        subst z
        exact hk (R.ll k i b ⟨z, ⟨_, e, ho⟩, ev⟩ L)
  cells := fun n c e => (R.cells n c e).mono (le_upd L e1) fun o _ h => by
    show upd H a _ (j n) = _
    rw [upd_ne (R.lc i a n L (List.getElem?_eq_some_iff.mp e).1)]
    exact h
  frame := fun b o t h1 h2 => by
    rw [upd_ne]
    · exact R.frame b o t h1 h2
    · intro z
      subst z
      rw [R.newl i b L] at h1
      cases h1
  newc := R.newc
  newl := fun k b h => R.newl k b ((linA_upd e1).mp h)
  n0 := R.n0
  ag := R.ag
/-- what stands in a linear slot -/
theorem Rel.linear (R : Rel K lin g j σ S σV H) (hl : lin i = true) (e1 : σ[i]? = some (some (.lst ds))) : ∃ a vs, LinA lin σ σV i a ∧ σV[i]? = some (some (.ref a)) ∧ H a = some (.lst vs) ∧ ds.length ≤ sizeLine ∧ RDs (wo K lin g.B j σ S σV H) ds vs := by
  obtain ⟨v, ev, _, h2⟩ := R.slots i _ e1
  cases h2 hl with
  | lst hh l r => exact ⟨_, _, ⟨hl, ⟨_, e1, rfl⟩, ev⟩, ev, hh, l, r⟩
end
end Qi
namespace Qi
open PySem PySem.Spec L2
variable {X : Cx} {Z : Env1} {a b e : Expr} {ma mb : Ex} {pos : Pos}
def asL : Option (Option D) → Option (List D)
  | some (some (.lst l)) => some l
  | _ => none
theorem asL_eq : ∀ {o : Option (Option D)} {l : List D}, asL o = some l → o = some (some (.lst l))
  | some (some (.lst _)), _, h => by cases h; rfl
  | none, _, h => by cases h
  | some none, _, h => by cases h
  | some (some .non), _, h => by cases h
  | some (some (.bl _)), _, h => by cases h
  | some (some (.int _)), _, h => by cases h
  | some (some (.str _)), _, h => by cases h
  | some (some (.tup _)), _, h => by cases h
  | some (some (.dic _)), _, h => by cases h
  | some (some (.ref _)), _, h => by cases h
  | some (some (.obj _ _)), _, h => by cases h
  | some (some (.exc _ _)), _, h => by cases h
  | some (some (.clo _ _)), _, h => by cases h
  | some (some (.scr _)), _, h => by cases h
def withL (i : Nat) (k : List D → Co) : Co := fun σ S => match asL σ[i]? with
  | some l => k l σ S
  | none => .stuck
theorem linear_or {g : Gd} {j : Nat → Addr} {σ : Sl} {S : Sto} {σV : L2.St} {H : Hp} {i : Nat} (R : RelZ Z g j σ S σV H) (hl : Z.lin i = true) {v : V} (ev : σV[i]? = some (some v)) {ds : List D} (e1 : σ[i]? = some (some (.lst ds))) :
    ∃ a vs, v = .ref a ∧ LinA Z.lin σ σV i a ∧ H a = some (.lst vs) ∧ RDs (wz Z g j σ S σV H) ds vs := by
  obtain ⟨a, vs, L, ev', ha, _, r⟩ := R.linear hl e1
  rw [ev'] at ev
  cases ev
  exact ⟨a, vs, rfl, L, ha, r⟩
theorem withL_of {g : Gd} {j : Nat → Addr} {σ : Sl} {S : Sto} {σV : L2.St} {H : Hp} {i : Nat} {k : List D → Co} {E : Ends} (R : RelZ Z g j σ S σV H) (hl : Z.lin i = true) (h : OutC Z g j σ S σV H E (withL i k σ S)) :
    ∃ l a vs, σ[i]? = some (some (.lst l)) ∧ σV[i]? = some (some (.ref a)) ∧ H a = some (.lst vs) ∧ OutC Z g j σ S σV H E (k l σ S) := by
  unfold withL at h
  cases e1 : asL σ[i]? with
  | none => rw [e1] at h; exact h.elim
  | some l =>
    rw [e1] at h
    obtain ⟨a, vs, L, ev, ha, _, r⟩ := R.linear hl (asL_eq e1)
    exact ⟨l, a, vs, asL_eq e1, ev, ha, h⟩
/-- x.append(e) -/
def cApp (i : Nat) (m : Ex) : Co := withL i fun l σ S => (m σ S).bind fun d S1 => if szOk (l.length + 1) = true then .ok (.next (σ.set i (some (.lst (l ++ [d]))))) S1 else .stuck
theorem ds_app {i : Nat} {c : Expr} (hc : PE X c (tBM X.K "list" rAppend (tVar i) (tCons (lE Z ma) tNil))) (hl : Z.lin i = true) (hs : swapsWith c none pos.line X.env = pure false := by rfl) : DS X Z (.Expr c pos) (cApp i ma) := PS.imp (ps_expr hc hs) fun E σV H => by
  rintro ⟨g, j, σ, S, R, h⟩
  obtain ⟨l, a, vs0, e1, ev, ha0, h⟩ := withL_of R hl h
  refine ⟨.ref a, ev, .inl ⟨rfl, vs0, .of ha0⟩, g, j, σ, S, R, OutC.bind (fun d S1 j1 y H1 R1 s1 rd h1 => ?_) h⟩
  obtain ⟨a', vs, ea, L, ha, r⟩ := linear_or R1 hl ev e1
  cases ea
  split at h1
  · rename_i hz
    refine ⟨a, vs, y, rfl, rfl, ha, ?_, ?_⟩
    · rw [r.length]
      exact Nat.lt_of_lt_of_le (Nat.lt_succ_self _) (szOk_le hz)
    · exact h1 j1 σV _ (R1.updL L e1 (by rw [List.length_append]; exact szOk_le hz) (r.append (.one rd))) (le_upd L e1)
  · exact h1.elim
/-- x.extend(e): a list or a tuple -/
theorem extend_tuple (l : Addr) (items : Array Value) (n : Nat) (b : Addr) (items2 : Array Value) (n2 : Nat) (dd : Option Addr) (sl : Array (Option Value)) (hs0 : ¬(!items.isEmpty && Builtin.List.listTooLong (items.size + items2.size)) = true) (hs1 : items.size ≤ sizeLine) (hs2 : items.size + items2.size ≤ sizeLine + 1) :
    Meets (Builtin.«list.extend» ⟨[.ref l, .ref b], []⟩) (fun _ R s => s.heap.get? l = some { cls := .type "list", dict := none, data := .seq items n, slots := #[] } ∧ s.heap.get? b = some { cls := .type "tuple", dict := dd, data := .seq items2 n2, slots := sl } ∧ R (.ok (.ret Value.none)) { s with heap := s.heap.update l (Obj.mapSeq fun x => x ++ items2), toks := s.toks }) :=
  .of_wp fun prog w A R s h => by
    obtain ⟨hp, g, d, tk, os⟩ := s; obtain ⟨hl, hb, h⟩ := h; have f1 := AutoSeq1.idx_int; have f2 := AutoSeq1.sub_tuple_tuple; have f3 := AutoSeq1.sub_list_list; have f4 := AutoSeq1.sub_tuple_list; have f5 := AutoSeq1.sub_list_tuple;
    have hz' : (items ++ items2).size ≤ sizeLine + 1 := by rw [Array.size_append]; exact hs2
    wp_walk using (wpAny_updateSeq hl rfl (hz := hs1) (_hz' := hz')), AutoSeq1.wpAny_loadPart' hl, AutoSeq1.wpAny_loadPart' hb; exact ⟨_, rfl, h⟩
def rExtT (K : PySem.W.Frag) : V → List V → Hp → VK → Prop := fun x vs H Q => ∃ l b xs zs, x = .ref l ∧ vs = [.ref b] ∧ H l = some (.lst xs) ∧ SqT K H b zs ∧ xs.length + zs.length ≤ sizeLine ∧ Q .non (upd H l (.lst (xs ++ zs)))
theorem mt_extT : MtM X "list.extend" (rExtT X.K) := by
  intro pins s σ H x vs v us Q I rx rv h
  obtain ⟨l, b, xs, zs, rfl, rfl, hH, hB, hz, q⟩ := h
  cases rx
  obtain ⟨u, rfl, ru⟩ := rv.one
  cases ru
  obtain ⟨z, its, n, r, hl, e⟩ := I.lstM hH
  obtain ⟨its2, r2, ⟨⟨oc, od, dt, sl⟩, e2, hc, n2, hd⟩, z2⟩ := I.tuple hB
  simp only at hc hd
  subst hc hd
  have hl2 := r2.length
  have hsz : its.toArray.size + its2.toArray.size ≤ sizeLine := by rw [List.size_toArray, List.size_toArray]; omega
  have hlong : ¬ (!its.toArray.isEmpty && Builtin.List.listTooLong (its.toArray.size + its2.toArray.size)) = true := by
    rw [notLongL hsz, Bool.and_false]
    exact Bool.false_ne_true
  refine call_meets F.slot_list_extend ⟨_, e, rfl⟩ F.entry_list_extend (F.args_list_extend_2 _ _)
    (extend_tuple l its.toArray n b its2.toArray n2 od sl hlong (by rw [List.size_toArray]; omega) (by omega)) ⟨e, e2, ?_⟩
  refine ⟨.non, _, I.lset (its' := its ++ its2) hH e (by simp) (r.append r2) ?_, rfl, q⟩
  rw [List.length_append]
  omega
def rExtA (K : PySem.W.Frag) : V → List V → Hp → VK → Prop := fun x vs H Q => rExtend x vs H Q ∨ rExtT K x vs H Q
theorem MtM.or {id : String} {r r' : V → List V → Hp → VK → Prop} (h : MtM X id r) (h' : MtM X id r') : MtM X id (fun x xs H Q => r x xs H Q ∨ r' x xs H Q) := by
  intro pins s σ H x vs v us Q I rx rv q
  rcases q with q | q
  · exact h pins s σ H x vs v us Q I rx rv q
  · exact h' pins s σ H x vs v us Q I rx rv q
theorem mt_extA : MtM X "list.extend" (rExtA X.K) := MtM.or mt_extend mt_extT
def seqD : D → Option (List D)
  | .lst l => some l
  | .tup l => some l
  | _ => none
def cExt (i : Nat) (m : Ex) : Co := withL i fun l σ S => (m σ S).bind fun d S1 => match seqD d with
  | some r => if szOk (l.length + r.length) = true then .ok (.next (σ.set i (some (.lst (l ++ r))))) S1 else .stuck
  | none => .stuck
theorem ds_ext {i : Nat} {c : Expr} (hc : PE X c (tBM X.K "list" (rExtA X.K) (tVar i) (tCons (lB Z ma) tNil))) (hl : Z.lin i = true) (hs : swapsWith c none pos.line X.env = pure false := by rfl) (hK : Z.K.K = X.K := by rfl) : DS X Z (.Expr c pos) (cExt i ma) := PS.imp (ps_expr hc hs) fun E σV H => by
  rintro ⟨g, j, σ, S, R, h⟩
  obtain ⟨l, a, vs0, e1, ev, ha0, h⟩ := withL_of R hl h
  refine ⟨.ref a, ev, .inl ⟨rfl, vs0, .of ha0⟩, g, j, σ, S, R, OutC.bind (fun d S1 j1 y H1 R1 s1 rd h1 => ?_) h⟩
  obtain ⟨a', vs, ea, L, ha, r⟩ := linear_or R1 hl ev e1
  cases ea
  cases d with
  | lst t =>
    obtain ⟨p, us, rfl, hs, r2⟩ := rd.lst
    simp only [seqD] at h1
    split at h1
    · rename_i hz
      refine .inl ⟨a, p, vs, us, rfl, rfl, ha, hs, ?_, ?_⟩
      · rw [r.length, r2.length]; exact szOk_le hz
      · exact h1 j1 σV _ (R1.updL L e1 (by rw [List.length_append]; exact szOk_le hz) (r.append r2)) (le_upd L e1)
    · exact h1.elim
  | tup t =>
    obtain ⟨p, us, rfl, hs, r2⟩ := (rd.rd (by intro _ z; cases z)).of_tup
    simp only [seqD] at h1
    split at h1
    · rename_i hz
      refine .inr ⟨a, p, vs, us, rfl, rfl, ha, ?_, ?_, ?_⟩
      · rw [← hK]; exact hs
      · rw [r.length, r2.length]; exact szOk_le hz
      · exact h1 j1 σV _ (R1.updL L e1 (by rw [List.length_append]; exact szOk_le hz) (r.append r2)) (le_upd L e1)
    · exact h1.elim
  | _ => exact h1.elim
inductive Tgt where
  | nm (i : Nat)
  | tp (is : List Nat)
def setsD : List Nat → List D → Sl → Option Sl
  | [], [], σ => some σ
  | i :: is, d :: ds, σ => setsD is ds (σ.set i (some d))
  | _, _, _ => none
def setsV : List Nat → List V → L2.St → L2.St
  | i :: is, v :: vs, σ => setsV is vs (σ.set i (some v))
  | _, _, σ => σ
def asgD : Tgt → D → Sl → Option Sl
  | .nm i, d, σ => some (σ.set i (some d))
  | .tp is, .tup ds, σ => setsD is ds σ
  | _, _, _ => none
def tgS : Tgt → List Nat
  | .nm i => [i]
  | .tp is => is
/-- what a target does, by values -/
def gT (K : PySem.W.Frag) : Tgt → TG
  | .nm i => gName i
  | .tp is => fun v σ H Q => ∃ a vs, v = .ref a ∧ SqT K H a vs ∧ vs.length = is.length ∧ Q (setsV is vs σ) H
theorem pgs_sets {es : List Expr} {is : List Nat} (h : PGs X es (fun vs σ H Q => vs.length = is.length ∧ Q (setsV is vs σ) H)) (hc : X.calm = true) (n : Nat) (hn : n = is.length) {k : Nat}
    (hp : PG X (.Tuple es k pos) (gTup X.K n (fun vs σ H Q => vs.length = is.length ∧ Q (setsV is vs σ) H))) : PG X (.Tuple es k pos) (gT X.K (.tp is)) := by
  refine ⟨fun pins s σ H v u Q I r q => ?_⟩
  obtain ⟨a, vs, e1, e2, e3, e4⟩ := q
  exact hp.run pins s σ H v u Q I r ⟨a, vs, e1, e2, by rw [hn]; exact e3, e3, e4⟩
theorem pgs_imp {es : List Expr} {t t' : TGs} (h : PGs X es t) (i : ∀ vs σ H Q, t' vs σ H Q → t vs σ H Q) : PGs X es t' := ⟨fun pins s σ H vs us Q I r q => h.run pins s σ H vs us Q I r (i _ _ _ _ q)⟩
theorem pgs_n : PGs X [] (fun vs σ H Q => vs.length = ([] : List Nat).length ∧ Q (setsV [] vs σ) H) := pgs_imp pgs_nil fun vs σ H Q ⟨e, q⟩ => by
  cases vs with
  | nil => exact ⟨rfl, q⟩
  | cons x r => cases e
theorem pgs_c {es : List Expr} {is : List Nat} {i : Nat} (h1 : PG X e (gName i)) (h2 : PGs X es (fun vs σ H Q => vs.length = is.length ∧ Q (setsV is vs σ) H))
    (hp : ∀ {t : TG} {u : TGs}, PG X e t → PGs X es u → PGs X (e :: es) (gCons t u)) : PGs X (e :: es) (fun vs σ H Q => vs.length = (i :: is).length ∧ Q (setsV (i :: is) vs σ) H) := pgs_imp (hp h1 h2) fun vs σ H Q ⟨e, q⟩ => by
  cases vs with
  | nil => cases e
  | cons x r => exact ⟨x, r, rfl, Nat.succ.inj e, q⟩
section
variable {g : Gd} {j : Nat → Addr} {S : Sto} {H : Hp}
theorem sets_rel : ∀ {is : List Nat} {ds : List D} {vs : List V} {σ σ' : Sl} {σV : L2.St}, (∀ i ∈ is, Z.lin i = false) → RelZ Z g j σ S σV H → RDs (wz Z g j σ S σV H) ds vs → setsD is ds σ = some σ' →
    RelZ Z g j σ' S (setsV is vs σV) H ∧ (wz Z g j σ S σV H).Le (wz Z g j σ' S (setsV is vs σV) H) ∧ vs.length = is.length
  | [], [], _, σ, σ', σV, _, R, .nil, h => by
    cases h
    exact ⟨R, Wo.Le.refl _, rfl⟩
  | i :: is, d :: ds, _ :: _, σ, σ', σV, hl, R, .cons rd r, h => by
    have h0 := hl i List.mem_cons_self
    obtain ⟨R', le', e⟩ := sets_rel (fun k hk => hl k (List.mem_cons_of_mem _ hk)) (R.set h0 rd) (r.mono (le_set h0)) h
    exact ⟨R', (le_set h0).trans le', by rw [List.length_cons, List.length_cons, e]⟩
  | [], _ :: _, _, _, _, _, _, _, _, h => by cases h
  | _ :: _, [], _, _, _, _, _, _, _, h => by cases h
theorem asg_rel {t : Tgt} {d : D} {v : V} {σ σ' : Sl} {σV : L2.St} {Q : L2.St → Hp → Prop} (hl : ∀ i ∈ tgS t, Z.lin i = false) (R : RelZ Z g j σ S σV H) (rd : RD (wz Z g j σ S σV H) d v) (h : asgD t d σ = some σ')
    (q : ∀ σV', RelZ Z g j σ' S σV' H → (wz Z g j σ S σV H).Le (wz Z g j σ' S σV' H) → Q σV' H) : gT Z.K.K t v σV H Q := by
  cases t with
  | nm i =>
    cases h
    have h0 := hl i List.mem_cons_self
    exact q _ (R.set h0 rd) (le_set h0)
  | tp is =>
    cases d with
    | tup ds =>
      obtain ⟨a, vs, rfl, hs, r⟩ := rd.of_tup
      obtain ⟨R', le', e⟩ := sets_rel hl R r h
      exact ⟨a, vs, rfl, hs, e, q _ R' le'⟩
    | _ => cases h
end
/-- t = e, an ordinary target -/
def cAsg (t : Tgt) (m : Ex) : Co := fun σ S => (m σ S).bind fun d S1 => match asgD t d σ with
  | some σ' => .ok (.next σ') S1
  | none => .stuck
theorem ds_asg {t : Tgt} {st : Stmt} (hr : PS X st (tAsg (lE Z ma) (gT X.K t))) (hl : ∀ i ∈ tgS t, Z.lin i = false) (hK : Z.K.K = X.K := by rfl) : DS X Z st (cAsg t ma) := PS.imp hr fun E σV H => by
  rintro ⟨g, j, σ, S, R, h⟩
  refine ⟨g, j, σ, S, R, OutC.bind (fun d S1 j1 v H1 R1 s1 rd h1 => ?_) h⟩
  rw [← hK]
  cases q : asgD t d σ with
  | none => rw [q] at h1; exact h1.elim
  | some σ' =>
    rw [q] at h1
    exact asg_rel hl R1 rd q fun σV' R' le => h1 j1 σV' H1 R' le
/-- t = x.pop(), x linear -/
def cPop (t : Tgt) (i : Nat) : Co := withL i fun l σ S => match l.getLast? with
  | some d => match asgD t d (σ.set i (some (.lst l.dropLast))) with
    | some σ' => .ok (.next σ') S
    | none => .stuck
  | none => .stuck
theorem getLast_at {α : Type} {l : List α} {d : α} (h : l.getLast? = some d) : l[l.length - 1]? = some d := by rw [List.getLast?_eq_getElem?] at h; exact h
theorem ds_pop {t : Tgt} {i : Nat} {st : Stmt} (hr : PS X st (tAsg (tBM0 X.K "list" rPop (tVar i)) (gT X.K t))) (hi : Z.lin i = true) (hl : ∀ i ∈ tgS t, Z.lin i = false) (hK : Z.K.K = X.K := by rfl) : DS X Z st (cPop t i) := PS.imp hr fun E σV H => by
  rintro ⟨g, j, σ, S, R, h⟩
  obtain ⟨l, a, vs0, e1, ev, ha0, h⟩ := withL_of R hi h
  obtain ⟨a', vs, ea, L, ha, r⟩ := linear_or R hi ev e1
  cases ea
  cases q : l.getLast? with
  | none => rw [q] at h; exact h.elim
  | some d =>
    rw [q] at h
    dsimp only at h
    cases q2 : asgD t d (σ.set i (some (.lst l.dropLast))) with
    | none => rw [q2] at h; exact h.elim
    | some σ' =>
      rw [q2] at h
      obtain ⟨v, hv, rd⟩ := r.get (getLast_at q)
      have hlen : l.length ≤ sizeLine := by
        obtain ⟨_, _, _, _, _, z, _⟩ := R.linear hi e1
        exact z
      have R1 := R.updL L e1 (by rw [List.length_dropLast]; omega) r.dropLast
      have l1 : (wz Z g j σ S σV H).Le (wz Z g j (σ.set i (some (.lst l.dropLast))) S σV (upd H a (.lst vs.dropLast))) := le_upd L e1
      refine ⟨.ref a, ev, .inl ⟨rfl, vs, .of ha⟩, a, vs, v, rfl, rfl, ha, by rw [r.length]; exact hv, ?_⟩
      rw [← hK]
      exact asg_rel hl R1 (rd.mono l1) q2 fun σV' R' le => h j σV' _ R' (l1.trans le)
/-- x.append(y.pop(m)), both linear -/
def cAppPop (i k : Nat) (m : Ex) : Co := withL i fun l σ S => withL k (fun r σ S => (m σ S).bind fun d S1 => match d with
  | .int n => match ixN r.length n with
    | some p => match r[p]? with
      | some x => if (szOk (l.length + 1) && szOk r.length) = true then .ok (.next ((σ.set k (some (.lst (r.eraseIdx p)))).set i (some (.lst (l ++ [x]))))) S1 else .stuck
      | none => .stuck
    | none => .stuck
  | _ => .stuck) σ S
theorem ds_appPop {i k : Nat} {c : Expr} (hc : PE X c (tBM X.K "list" rAppend (tVar i) (tCons (tBM X.K "list" rPopAt (tVar k) (tCons (lE Z ma) tNil)) tNil))) (hi : Z.lin i = true) (hk : Z.lin k = true) (hik : i ≠ k) (hs : swapsWith c none pos.line X.env = pure false := by rfl) : DS X Z (.Expr c pos) (cAppPop i k ma) := PS.imp (ps_expr hc hs) fun E σV H => by
  rintro ⟨g, j, σ, S, R, h⟩
  obtain ⟨l, a, vs0, e1, ev, ha0, h⟩ := withL_of R hi h
  obtain ⟨r, b, us0, e2, ev2, hb0, h⟩ := withL_of R hk h
  refine ⟨.ref a, ev, .inl ⟨rfl, vs0, .of ha0⟩, .ref b, ev2, .inl ⟨rfl, us0, .of hb0⟩, g, j, σ, S, R, OutC.bind (fun d S1 j1 y H1 R1 s1 rd h1 => ?_) h⟩
  obtain ⟨a', vs, ea, L, ha, rr⟩ := linear_or R1 hi ev e1
  cases ea
  obtain ⟨b', us, eb, L2, hb, rr2⟩ := linear_or R1 hk ev2 e2
  cases eb
  have hne : a ≠ b := fun z => hik (R1.ll i k a L (by rw [z]; exact L2))
  cases d with
  | int n =>
    dsimp only at h1
    cases q : ixN r.length n with
    | none => rw [q] at h1; exact h1.elim
    | some p =>
      rw [q] at h1
      dsimp only at h1
      cases q2 : r[p]? with
      | none => rw [q2] at h1; exact h1.elim
      | some x =>
        rw [q2] at h1
        dsimp only at h1
        split at h1
        · rename_i hz
          rw [Bool.and_eq_true] at hz
          have hz2 := of_decide_eq_true hz.2
          replace hz := hz.1
          rw [rd.of_int]
          obtain ⟨v, hv, rdv⟩ := rr2.get q2
          obtain ⟨z1, z2, z3, z4⟩ := ixN_seq q
          have ln := rr2.length
          have R2 := R1.updL L2 e2 (Nat.le_trans (len_erase _ _) (szOk_le (decide_eq_true hz2))) (rr2.eraseIdx p)
          have l1 : (wz Z g j1 σ S1 σV H1).Le (wz Z g j1 (σ.set k (some (.lst (r.eraseIdx p)))) S1 σV (upd H1 b (.lst (us.eraseIdx p)))) := le_upd L2 e2
          have e1' : (σ.set k (some (D.lst (r.eraseIdx p))))[i]? = some (some (.lst l)) := by rw [List.getElem?_set_ne (Ne.symm hik)]; exact e1
          obtain ⟨a'', vs2, ea2, L', ha2, rr3⟩ := linear_or R2 hi ev e1'
          cases ea2
          refine ⟨b, us, n, p, v, rfl, rfl, hb, ?_, ?_, ?_, ?_, ?_⟩
          · omega
          · omega
          · rw [ln]; exact z1
          · exact hv
          · refine ⟨a, vs2, v, rfl, rfl, ha2, ?_, ?_⟩
            · rw [rr3.length]
              exact Nat.lt_of_lt_of_le (Nat.lt_succ_self _) (szOk_le hz)
            · exact h1 j1 σV _ (R2.updL L' e1' (by rw [List.length_append]; exact szOk_le hz) (rr3.append (.one (rdv.mono l1)))) (l1.trans (le_upd L' e1'))
        · exact h1.elim
  | _ => exact h1.elim
end Qi
namespace Qi
open PySem PySem.Spec L2
variable {X : Cx} {Z : Env1} {a b e : Expr} {ma mb : Ex} {pos : Pos}
def whileL (t : Ts) (b : Co) : Nat → Co
  | 0 => fun _ _ => .stuck
  | n + 1 => fun σ S => (t σ S).bind fun c S1 => if c = true then (b σ S1).bind fun f S2 => (match f with
    | .next σ' => whileL t b n σ' S2
    | .cnt σ' => whileL t b n σ' S2
    | .brk σ' => .ok (.next σ') S2
    | .ret d => .ok (.ret d) S2) else .ok (.next σ) S1
def WF : Nat := 1048576
def cWhile (t : Ts) (b : Co) : Co := whileL t b WF
theorem ds_while {t : Ts} {body : List Stmt} {m : Co} (hp : PassesOwn (model X.prog X.w) X.A X.env X.xe) (hc : DT X Z e t) (hb : DSs X Z body m) : DS X Z (.While e body [] pos) (cWhile t m) := PS.imp (ps_while hp hc hb) fun D σV H => by
  rintro ⟨g, j, σ, S, R, h⟩
  refine ⟨fun n σV H => ∃ g j σ S, RelZ Z g j σ S σV H ∧ OutC Z g j σ S σV H D (whileL t m n σ S), ⟨WF, g, j, σ, S, R, h⟩, ?_⟩
  rintro n σV H ⟨g, j, σ, S, R, h⟩
  cases n with
  | zero => exact h.elim
  | succ n =>
    refine ⟨g, j, σ, S, R, OutC.bind (fun c S1 j1 v H1 R1 s1 rd h1 => ?_) h⟩
    cases (show c = v from rd)
    cases c with
    | false => rw [if_neg Bool.false_ne_true] at h1 ⊢; exact h1 j1 σV H1 R1 (Wo.Le.refl _)
    | true =>
      rw [if_pos rfl] at h1 ⊢
      refine ⟨fun σV H => ∃ g j σ S, RelZ Z g j σ S σV H ∧ OutC Z g j σ S σV H D (whileL t m n σ S), fun σ' H' q => ⟨n, Nat.lt_succ_self n, q⟩, g, j1, σ, S1, R1, ?_⟩
      generalize m σ S1 = r at h1
      match r, h1 with
      | .ok (.next σ2) S2, h1 => exact fun j2 σV2 H2 R2 le => ⟨g, j2, σ2, S2, R2, OutC.le le h1⟩
      | .ok (.cnt σ2) S2, h1 => exact fun j2 σV2 H2 R2 le => ⟨g, j2, σ2, S2, R2, OutC.le le h1⟩
      | .ok (.brk σ2) S2, h1 => exact h1
      | .ok (.ret d) S2, h1 => exact h1
      | .exc x S2, h1 => exact h1
      | .stuck, h1 => exact h1
structure ItD (w : Wo) (ds : List D) (J : It) : Prop where
  go : ∀ i w2, i < ds.length → w.Le w2 → J.go i w2.H
  stop : ∀ w2, w.Le w2 → J.stop ds.length w2.H
  yld : ∀ i d w2 x H3, ds[i]? = some d → w.Le w2 → (∀ a, w2.F a → ∃ o, w2.H a = some o) → J.yld i w2.H x H3 → (H3 = w2.H ∨ ∃ T o, w2.H T = none ∧ H3 = upd w2.H T o) ∧ RD { w2 with H := H3 } d x
  len : ds.length ≤ sizeLine
def lI (Z : Env1) (m : Ag) : TI := fun σV H R => ∃ g j σ S, RelZ Z g j σ S σV H ∧ OutR Z g j σ S σV H ItD R (m σ S)
abbrev DI (X : Cx) (Z : Env1) (tg it : Expr) (m : Ag) : Prop := PI X tg it (lI Z m)
theorem PI.imp {tg it : Expr} {t t' : TI} (h : PI X tg it t) (i : ∀ σ H R, t' σ H R → t σ H R) : PI X tg it t' := ⟨fun pins s σ H R I q => h.run pins s σ H R I (i _ _ _ q)⟩
/-- for over what is walked -/
def forL (t : Tgt) (b : Co) : List D → Co
  | [] => fun σ S => .ok (.next σ) S
  | d :: r => fun σ S => match asgD t d σ with
    | some σ1 => (b σ1 S).bind fun f S2 => (match f with
      | .next σ' => forL t b r σ' S2
      | .cnt σ' => forL t b r σ' S2
      | .brk σ' => .ok (.next σ') S2
      | .ret d => .ok (.ret d) S2)
    | none => .stuck
def cFor (m : Ag) (t : Tgt) (b : Co) : Co := fun σ S => (m σ S).bind fun ds S1 => forL t b ds σ S1
theorem Rel.yield {g : Gd} {j : Nat → Addr} {σ : Sl} {S : Sto} {σV : L2.St} {H H3 : Hp} (R : RelZ Z g j σ S σV H) (h : H3 = H ∨ ∃ T o, H T = none ∧ H3 = upd H T o) : RelZ Z g j σ S σV H3 ∧ Stp j S.length H j S.length H3 := by
  rcases h with rfl | ⟨T, o, hT, rfl⟩
  · exact ⟨R, Stp.refl⟩
  · exact ⟨R.alloc hT, Stp.alloc hT⟩
theorem ds_for {t : Tgt} {tg it : Expr} {body : List Stmt} {m : Ag} {mb : Co} (hp : PassesOwn (model X.prog X.w) X.A X.env X.xe) (hc : X.calm = true) (hi : DI X Z tg it m) (hg : PG X tg (gT X.K t)) (hb : DSs X Z body mb) (hl : ∀ i ∈ tgS t, Z.lin i = false)
    (hr : ∀ {wi : TI} {g : TG} {tb : TS}, PI X tg it wi → PG X tg g → PSs X body tb → PS X (.For tg it body [] pos) (tFor wi g tb)) (hK : Z.K.K = X.K := by rfl) : DS X Z (.For tg it body [] pos) (cFor m t mb) := PS.imp (hr hi hg hb) fun D σV H => by
  rintro ⟨g, j, σ, S, R, h⟩
  refine ⟨g, j, σ, S, R, OutC.bind (fun ds S1 j1 J H1 R1 s1 I1 h1 => ?_) h⟩
  refine ⟨fun i m σV2 H2 => ∃ j2 σ2 S2, RelZ Z g j2 σ2 S2 σV2 H2 ∧ (wz Z g j1 σ S1 σV H1).Le (wz Z g j2 σ2 S2 σV2 H2) ∧ OutC Z g j2 σ2 S2 σV2 H2 D (forL t mb (ds.drop i) σ2 S2) ∧ m = ds.length - i ∧ i ≤ ds.length,
    ⟨ds.length, j1, σ, S1, R1, Wo.Le.refl _, h1, by omega, Nat.zero_le _⟩, ?_⟩
  rintro i m σV2 H2 ⟨j2, σ2, S2, R2, le2, h2, rfl, hi⟩
  by_cases hlt : i < ds.length
  · refine .inr ⟨I1.go i _ hlt le2, fun σV2 H2 => ∃ j2 σ2 S2, RelZ Z g j2 σ2 S2 σV2 H2 ∧ (wz Z g j1 σ S1 σV H1).Le (wz Z g j2 σ2 S2 σV2 H2) ∧ OutC Z g j2 σ2 S2 σV2 H2 D (forL t mb (ds.drop (i + 1)) σ2 S2), fun σ' H' ⟨j3, σ3, S3, R3, le3, h3⟩ => ⟨ds.length - (i + 1), by omega, j3, σ3, S3, R3, le3, h3, rfl, hlt⟩, fun x H3 hy => ?_⟩
    obtain ⟨hH, rd⟩ := I1.yld i _ _ x H3 (List.getElem?_eq_getElem hlt) le2 R2.trk hy
    obtain ⟨R3, st3⟩ := R2.yield hH
    have le3 := le2.trans (st3.wle (K := Z.K) (lin := Z.lin) (B := g.B) (σ := σ2) (σV := σV2))
    rw [List.drop_eq_getElem_cons hlt] at h2
    simp only [forL] at h2
    rw [← hK]
    cases q : asgD t ds[i] σ2 with
    | none => rw [q] at h2; exact h2.elim
    | some σ4 =>
      rw [q] at h2
      refine asg_rel hl R3 rd q fun σV4 R4 le4 => ⟨g, j2, σ4, S2, R4, ?_⟩
      have le5 := le3.trans le4
      have h4 := OutC.le ((st3.wle (K := Z.K) (lin := Z.lin) (B := g.B) (σ := σ2) (σV := σV2)).trans le4) h2
      dsimp only at h4
      generalize mb σ4 S2 = r at h4
      match r, h4 with
      | .ok (.next σ5) S5, h4 => exact fun j5 σV5 H5 R5 le => ⟨j5, σ5, S5, R5, le5.trans le, OutC.le le h4⟩
      | .ok (.cnt σ5) S5, h4 => exact fun j5 σV5 H5 R5 le => ⟨j5, σ5, S5, R5, le5.trans le, OutC.le le h4⟩
      | .ok (.brk σ5) S5, h4 => exact h4
      | .ok (.ret d) S5, h4 => exact h4
      | .exc x S5, h4 => exact h4
      | .stuck, h4 => exact h4
  · have e : i = ds.length := by omega
    subst e
    refine .inl ⟨I1.stop _ le2, ?_⟩
    rw [List.drop_length] at h2
    exact h2 j2 σV2 H2 R2 (Wo.Le.refl _)
def mIt (m : Ex) : Ag := fun σ S => (m σ S).bind fun d S1 => match d with
  | .lst l => .ok l S1
  | .tup l => .ok l S1
  | .scr l => .ok (l.map D.int) S1
  | _ => .stuck
theorem it_lst {w : Wo} {ds : List D} {a : Addr} {K : PySem.W.Frag} (hv : RD w (.lst ds) (.ref a)) : ItD w ds (Itl K a) where
  go := fun i w2 hi le => by
    obtain ⟨p, vs, e, h, r, _⟩ := (hv.mono le).of_lst
    cases e
    obtain ⟨v, ev, _⟩ := r.get (List.getElem?_eq_getElem hi)
    exact ⟨vs, v, .of h, ev⟩
  stop := fun w2 le => by
    obtain ⟨p, vs, e, h, r, _⟩ := (hv.mono le).of_lst
    cases e
    exact ⟨vs, .of h, by rw [r.length]; exact Nat.le_refl _⟩
  yld := fun i d w2 x H3 hd le _ hy => by
    obtain ⟨rfl, hx⟩ := hy
    obtain ⟨p, vs, e, h, r, _⟩ := (hv.mono le).of_lst
    cases e
    obtain ⟨v, ev, rd⟩ := r.get hd
    have := hx vs (.of h)
    rw [ev] at this
    cases this
    exact ⟨.inl rfl, rd⟩
  len := hv.len_lst
theorem it_tup {w : Wo} {ds : List D} {a : Addr} (hv : RD w (.tup ds) (.ref a)) : ItD w ds (Itt w.K.K a) where
  go := fun i w2 hi le => by
    obtain ⟨p, vs, e, h, r⟩ := (hv.mono le).of_tup
    cases e
    obtain ⟨v, ev, _⟩ := r.get (List.getElem?_eq_getElem hi)
    rw [le.k] at h
    exact ⟨vs, v, h, ev⟩
  stop := fun w2 le => by
    obtain ⟨p, vs, e, h, r⟩ := (hv.mono le).of_tup
    cases e
    rw [le.k] at h
    exact ⟨vs, h, by rw [r.length]; exact Nat.le_refl _⟩
  yld := fun i d w2 x H3 hd le _ hy => by
    obtain ⟨rfl, hx⟩ := hy
    obtain ⟨p, vs, e, h, r⟩ := (hv.mono le).of_tup
    cases e
    rw [le.k] at h
    obtain ⟨v, ev, rd⟩ := r.get hd
    have := hx vs h
    rw [ev] at this
    cases this
    exact ⟨.inl rfl, rd⟩
  len := hv.len_tup
theorem it_scr {w : Wo} {ns : List Int} {a : Addr} (hv : RD w (.scr ns) (.ref a)) : ItD w (ns.map D.int) (Itl w.K.K a) where
  go := fun i w2 hi le => by
    obtain ⟨p, e, h⟩ := (hv.mono le).of_scr
    cases e
    rw [List.length_map] at hi
    rw [le.k] at h
    exact ⟨_, .int ns[i], h, by rw [List.getElem?_map, List.getElem?_eq_getElem hi]; rfl⟩
  stop := fun w2 le => by
    obtain ⟨p, e, h⟩ := (hv.mono le).of_scr
    cases e
    rw [le.k] at h
    exact ⟨_, h, by rw [List.length_map, List.length_map]; exact Nat.le_refl _⟩
  yld := fun i d w2 x H3 hd le _ hy => by
    obtain ⟨rfl, hx⟩ := hy
    obtain ⟨p, e, h⟩ := (hv.mono le).of_scr
    cases e
    rw [le.k] at h
    have e2 := hx _ h
    rw [List.getElem?_map] at e2 hd
    cases q : ns[i]? with
    | none => rw [q] at hd; cases hd
    | some n =>
      rw [q] at hd e2
      cases hd
      cases e2
      exact ⟨.inl rfl, .int n⟩
  len := by rw [List.length_map]; exact hv.len_scr
/-- a list or a tuple, walked -/
def iSeq (K : PySem.W.Frag) (tl : TE) : TI := fun σ H R => tl σ H fun x H1 => ∃ a, x = .ref a ∧ (((∃ xs, SqL K H1 a xs) ∧ R (Itl K a) H1) ∨ ((∃ xs, SqT K H1 a xs) ∧ R (Itt K a) H1))
theorem pi_seq {tg l : Expr} {tl : TE} (hl : PE X l tl) : PI X tg l (iSeq X.K tl) := by
  refine ⟨fun pins s σ H R I h => ?_⟩
  refine thn (hl.run pins s σ H _ I h) fun v s1 ⟨x, H1, I1, r1, q1⟩ => ?_
  obtain ⟨a, e, q⟩ := q1
  subst e
  cases r1
  rcases q with ⟨⟨xs, hq⟩, q⟩ | ⟨⟨xs, hq⟩, q⟩
  · obtain ⟨its, rv, p, hz⟩ := I1.list hq
    refine wpAny_pyIter_list p.isList ?_
    refine ⟨s1.heap.objs.size, [s1.heap.objs.size], _, _, H1, rfl, I1.kept (t' := s1.toks) fun b o e => Heap.get?_push_of_some _ e, turn_list a _, ⟨_, Heap.get?_push_size _ rfl, rfl, rfl⟩, fun b hb => ?_, q⟩
    have e : b = s1.heap.objs.size := by simpa using hb
    subst e
    exact I1.fpOk (Nat.le_refl _) (I1.hok.fresh (Nat.le_refl _))
  · obtain ⟨its, rv, p, hz⟩ := I1.tuple hq
    refine wpAny_pyIter_tuple (show s1.heap.IsTuple a its.toArray from p) ?_
    refine ⟨s1.heap.objs.size, [s1.heap.objs.size], _, _, H1, rfl, I1.kept (t' := s1.toks) fun b o e => Heap.get?_push_of_some _ e, turn_tuple a _, ⟨_, Heap.get?_push_size _ rfl, rfl, rfl⟩, fun b hb => ?_, q⟩
    have e : b = s1.heap.objs.size := by simpa using hb
    subst e
    exact I1.fpOk (Nat.le_refl _) (I1.hok.fresh (Nat.le_refl _))
theorem di_seq {tg : Expr} (h : DE X Z e ma) (hK : Z.K.K = X.K := by rfl) : DI X Z tg e (mIt ma) := PI.imp (pi_seq h) fun σV H R => by
  rintro ⟨g, j, σ, S, R0, h⟩
  refine ⟨g, j, σ, S, R0, OutR.bind (fun d S1 j1 v H1 R1 s1 rd h1 => ?_) h⟩
  cases d with
  | lst l =>
    obtain ⟨p, vs, rfl, hs, r, _⟩ := rd.of_lst
    exact ⟨p, rfl, .inl ⟨⟨vs, .of hs⟩, h1 j1 _ H1 R1 Stp.refl (it_lst rd)⟩⟩
  | tup l =>
    obtain ⟨p, vs, rfl, hs, r⟩ := rd.of_tup
    refine ⟨p, rfl, .inr ⟨⟨vs, by rw [← hK]; exact hs⟩, ?_⟩⟩
    rw [← hK]
    exact h1 j1 _ H1 R1 Stp.refl (it_tup rd)
  | scr l =>
    obtain ⟨p, rfl, hs⟩ := rd.of_scr
    refine ⟨p, rfl, .inl ⟨⟨_, by rw [← hK]; exact hs⟩, ?_⟩⟩
    rw [← hK]
    exact h1 j1 _ H1 R1 Stp.refl (it_scr rd)
  | _ => exact h1.elim
/-- range(n), range(a, b) -/
def rngD (lo : Int) (n : Nat) : List D := (List.range n).map fun i => D.int (lo + (i : Nat))
theorem it_rng {w : Wo} {lo : Int} {n : Nat} (hn : n ≤ sizeLine) : ItD w (rngD lo n) (Itr lo n) where
  go := fun i w2 hi le => by
    unfold rngD at hi
    rw [List.length_map, List.length_range] at hi
    exact hi
  stop := fun w2 le => by
    show n ≤ _
    unfold rngD
    rw [List.length_map, List.length_range]
    exact Nat.le_refl _
  yld := fun i d w2 x H3 hd le _ hy => by
    obtain ⟨rfl, rfl⟩ := hy
    unfold rngD at hd
    rw [List.getElem?_map] at hd
    cases q : (List.range n)[i]? with
    | none => rw [q] at hd; cases hd
    | some k =>
      rw [q] at hd
      cases hd
      obtain ⟨h1, h2⟩ := List.getElem?_eq_some_iff.mp q
      rw [List.getElem_range] at h2
      subst h2
      exact ⟨.inl rfl, .int _⟩
  len := by
    unfold rngD
    rw [List.length_map, List.length_range]
    exact hn
def mRg1 (m : Ex) : Ag := fun σ S => (m σ S).bind fun d S1 => match d with
  | .int n => if (decide (-1000000000 ≤ n) && decide (n ≤ 16777216)) = true then .ok (rngD 0 n.toNat) S1 else .stuck
  | _ => .stuck
def mRg2 (m k : Ex) : Ag := fun σ S => (m σ S).bind fun d S1 => (k σ S1).bind fun e S2 => match d, e with
  | .int lo, .int hi => if (decide (-1000000000 ≤ lo) && decide (lo ≤ 16777216) && decide (-1000000000 ≤ hi) && decide (hi ≤ 16777216) && decide (hi - lo ≤ 16777216)) = true then .ok (rngD lo (hi - lo).toNat) S2 else .stuck
  | _, _ => .stuck
theorem di_rg1 {tg : Expr} {p : Pos} (hr : ∀ {ta : TA}, PA X [a] ta → PI X tg (.Call (.Name "range" p) [a] [] pos) (iRng1 ta)) (ha : DE X Z a ma) (hs : starEach [a] X.env = (false, eval a X.env) :: starEach [] X.env := by rfl) : DI X Z tg (.Call (.Name "range" p) [a] [] pos) (mRg1 ma) :=
  PI.imp (hr (pa_cons ha pa_nil hs)) fun σV H R => by
    rintro ⟨g, j, σ, S, R0, h⟩
    refine ⟨g, j, σ, S, R0, OutR.bind (fun d S1 j1 v H1 R1 s1 rd h1 => ?_) h⟩
    cases d with
    | int n =>
      dsimp only at h1
      split at h1
      · rename_i hz
        rw [Bool.and_eq_true] at hz
        have z1 := of_decide_eq_true hz.1
        have z2 := of_decide_eq_true hz.2
        refine ⟨n, by rw [rd.of_int], by omega, by omega, ?_⟩
        exact h1 j1 _ H1 R1 Stp.refl (it_rng (by rw [sizeLine_eq]; omega))
      · exact h1.elim
    | _ => exact h1.elim
theorem di_rg2 {tg : Expr} {p : Pos} (hr : ∀ {ta : TA}, PA X [a, b] ta → PI X tg (.Call (.Name "range" p) [a, b] [] pos) (iRng2 ta)) (ha : DE X Z a ma) (hb : DE X Z b mb) (hs : starEach [a, b] X.env = (false, eval a X.env) :: starEach [b] X.env := by rfl) (hs2 : starEach [b] X.env = (false, eval b X.env) :: starEach [] X.env := by rfl) :
    DI X Z tg (.Call (.Name "range" p) [a, b] [] pos) (mRg2 ma mb) :=
  PI.imp (hr (pa_cons ha (pa_cons hb pa_nil hs2) hs)) fun σV H R => by
    rintro ⟨g, j, σ, S, R0, h⟩
    refine ⟨g, j, σ, S, R0, OutR.bind (fun d S1 j1 v H1 R1 s1 rd h1 => ?_) h⟩
    refine ⟨g, j1, σ, S1, R1, OutR.bind (fun e S2 j2 u H2 R2 s2 re h2 => ?_) h1⟩
    cases d with
    | int lo =>
      cases e with
      | int hi =>
        dsimp only at h2
        split at h2
        · rename_i hz
          simp only [Bool.and_eq_true, decide_eq_true_eq] at hz
          refine ⟨lo, hi, by rw [rd.of_int, re.of_int], ⟨by omega, by omega, by omega, by omega⟩, ?_⟩
          exact h2 j2 _ H2 R2 Stp.refl (it_rng (by rw [sizeLine_eq]; omega))
        · exact h2.elim
      | _ => exact h2.elim
    | _ => exact h2.elim
end Qi
namespace Qi
open PySem PySem.Spec L2
variable {X : Cx} {Z : Env1} {a b e : Expr} {ma mb : Ex} {pos : Pos}
@[inline] def Res.nox {α : Type} : Res α → Res α
  | .ok a S => .ok a S
  | _ => .stuck
def wipeD (σ : Sl) : List Nat → Sl
  | [] => σ
  | i :: is => (wipeD σ is).set i none
def tT : Ts := fun _ S => .ok true S
def lcL (t : Tgt) (c : Ts) (m : Ex) (σ : Sl) : List D → Sto → Res (List D)
  | [], S => .ok [] S
  | d :: r, S => match asgD t d σ with
    | some σ1 => (c σ1 S).nox.bind fun b S1 => if b = true then ((m σ1 S1).nox.bind fun y S2 => (lcL t c m σ r S2).bind fun ys S3 => .ok (y :: ys) S3) else lcL t c m σ r S1
    | none => .stuck
/-- [m for t in mi if c] -/
def xLc (mi : Ag) (t : Tgt) (c : Ts) (m : Ex) (vs : List Nat) : Ex := fun σ S => (mi σ S).bind fun ds S1 => (lcL t c m (wipeD σ vs) ds S1).nox.bind fun l S2 => .ok (.lst l) S2
/-- no exception gets out -/
def Env1.no (Z : Env1) : Env1 := { Z with W := fun _ _ _ _ => False }
section
variable {K : Kx} {lin : Nat → Bool} {g : Gd} {j : Nat → Addr} {σ : Sl} {S : Sto} {σV : L2.St} {H : Hp}
theorem wipeD_length (σ : Sl) : ∀ is : List Nat, (wipeD σ is).length = σ.length
  | [] => rfl
  | i :: is => by unfold wipeD; rw [List.length_set, wipeD_length σ is]
theorem wipeD_some {i : Nat} {d : D} : ∀ {is : List Nat}, (wipeD σ is)[i]? = some (some d) → σ[i]? = some (some d) ∧ i ∉ is
  | [], h => ⟨h, by simp⟩
  | k :: is, h => by
    unfold wipeD at h
    by_cases hk : i = k
    · subst hk
      by_cases hl : i < (wipeD σ is).length
      · rw [List.getElem?_set_self hl] at h; cases h
      · rw [List.getElem?_eq_none (by rw [List.length_set]; omega)] at h; cases h
    · rw [List.getElem?_set_ne (Ne.symm hk)] at h
      obtain ⟨h1, h2⟩ := wipeD_some h
      exact ⟨h1, by simp [hk, h2]⟩
theorem wipeD_out {i : Nat} : ∀ {is : List Nat}, i ∉ is → (wipeD σ is)[i]? = σ[i]?
  | [], _ => rfl
  | k :: is, h => by
    unfold wipeD
    rw [List.getElem?_set_ne (by intro z; exact h (by simp [z])), wipeD_out fun z => h (by simp [z])]
/-- two states of slots with the same linear ones -/
def LinEq (lin : Nat → Bool) (σ : Sl) (σV : L2.St) (σ2 : Sl) (σV2 : L2.St) : Prop := ∀ i a, LinA lin σ σV i a ↔ LinA lin σ2 σV2 i a
theorem linEq_wipe {is : List Nat} (h : ∀ i ∈ is, lin i = false) : LinEq lin σ σV (wipeD σ is) (wipe σV is) := fun i a => by
  unfold LinA
  by_cases hi : i ∈ is
  · rw [h i hi]
    simp
  · rw [wipeD_out hi, wipe_out hi]
theorem LinEq.ff {σ2 : Sl} {σV2 : L2.St} (h : LinEq lin σ σV σ2 σV2) {B : Addr → Prop} {N : Nat} {a : Addr} : FF lin B j N σ σV a ↔ FF lin B j N σ2 σV2 a := by
  unfold FF
  constructor
  · rintro (z | z | ⟨k, z⟩)
    · exact .inl z
    · exact .inr (.inl z)
    · exact .inr (.inr ⟨k, (h k a).mp z⟩)
  · rintro (z | z | ⟨k, z⟩)
    · exact .inl z
    · exact .inr (.inl z)
    · exact .inr (.inr ⟨k, (h k a).mpr z⟩)
theorem LinEq.symm {σ2 : Sl} {σV2 : L2.St} (h : LinEq lin σ σV σ2 σV2) : LinEq lin σ2 σV2 σ σV := fun i a => (h i a).symm
theorem LinEq.trans {σ2 σ3 : Sl} {σV2 σV3 : L2.St} (h : LinEq lin σ σV σ2 σV2) (h' : LinEq lin σ2 σV2 σ3 σV3) : LinEq lin σ σV σ3 σV3 := fun i a => (h i a).trans (h' i a)
theorem LinEq.le {σ2 : Sl} {σV2 : L2.St} (h : LinEq lin σ σV σ2 σV2) {B : Addr → Prop} : (wo K lin B j σ S σV H).Le (wo K lin B j σ2 S σV2 H) :=
  ⟨rfl, rfl, fun a o _ e f => ⟨e, fun z => f (h.ff.mpr z)⟩, fun _ _ => rfl, Nat.le_refl _⟩
theorem Rel.wipe {is : List Nat} (R : Rel K lin g j σ S σV H) (h : ∀ i ∈ is, lin i = false) : Rel K lin g j (wipeD σ is) S (wipe σV is) H := by
  have E := linEq_wipe (σ := σ) (σV := σV) h
  refine ⟨by rw [wipeD_length, wipe_length, R.len], R.inj, fun i a n z => R.lc i a n ((E i a).mpr z), fun i i' a z z' => R.ll i i' a ((E i a).mpr z) ((E i' a).mpr z'), R.oc, fun i a z => R.ol i a ((E i a).mpr z), fun a z => R.trk a (E.ff.mpr z), fun i d e => ?_,
    fun n c e => (R.cells n c e).mono E.le fun o _ h => h, R.frame, R.newc, fun i a z => R.newl i a ((E i a).mpr z), R.n0, R.ag, R.dom, R.tabs⟩
  obtain ⟨e1, hn⟩ := wipeD_some e
  obtain ⟨v, ev, h1, h2⟩ := R.slots i d e1
  exact ⟨v, by rw [wipe_out hn]; exact ev, fun z => (h1 z).mono E.le, fun z => (h2 z).mono E.le fun a o _ _ _ h => h⟩
/-- back to other slots behind an evaluation -/
theorem Rel.other {j' : Nat → Addr} {S' : Sto} {H' : Hp} {σ2 : Sl} {σV2 : L2.St} (R : Rel K lin g j σ S σV H) (R2 : Rel K lin g j' σ2 S' σV2 H') (st : Stp j S.length H j' S'.length H') (E : LinEq lin σ σV σ2 σV2) : Rel K lin g j' σ S' σV H' := by
  have le1 : (wo K lin g.B j σ S σV H).Le (wo K lin g.B j' σ S' σV H') := st.wle
  refine ⟨R.len, R2.inj, fun i a n z => R2.lc i a n ((E i a).mp z), R.ll, R2.oc, R.ol, fun a z => R2.trk a (E.ff.mp z), fun i d e => ?_, fun n c e => (R2.cells n c e).mono E.symm.le fun o _ h => h, R2.frame, R2.newc, R.newl, R2.n0, R2.ag, R2.dom, R2.tabs⟩
  obtain ⟨v, ev, h1, h2⟩ := R.slots i d e
  refine ⟨v, ev, fun z => (h1 z).mono le1, fun z => (h2 z).mono le1 fun a o ea ho t h => st.keep a o t h fun n hn => ?_⟩
  subst ea
  exact R.lc i a n ⟨z, ⟨d, e, ho⟩, ev⟩ hn
theorem linEq_sets : ∀ {is : List Nat} {ds : List D} {vs : List V} {σ σ' : Sl} {σV : L2.St}, (∀ i ∈ is, lin i = false) → setsD is ds σ = some σ' → vs.length = is.length → LinEq lin σ σV σ' (setsV is vs σV)
  | [], [], _, σ, σ', σV, _, h, hl => by
    cases h
    unfold setsV
    exact fun i a => Iff.rfl
  | i :: is, d :: ds, v :: vs, σ, σ', σV, hn, h, hl => by
    unfold setsV
    refine LinEq.trans (fun k a => (linA_set (hn i List.mem_cons_self)).symm) (linEq_sets (fun k hk => hn k (List.mem_cons_of_mem _ hk)) h (Nat.succ.inj hl))
  | _ :: _, _ :: _, [], _, _, _, _, _, hl => by cases hl
  | [], _ :: _, _, _, _, _, _, h, _ => by cases h
  | _ :: _, [], _, _, _, _, _, h, _ => by cases h
end
/-- the target within a comprehension -/
theorem asg_comp {g : Gd} {j : Nat → Addr} {S : Sto} {H : Hp} {t : Tgt} {d : D} {v : V} {σ σ' : Sl} {σV : L2.St} {Q : L2.St → Hp → Prop} {vs : List Nat} (hv : ∀ i ∈ tgS t, i ∈ vs) (hl : ∀ i ∈ vs, Z.lin i = false) (R : RelZ Z g j (wipeD σ vs) S (wipe σV vs) H) (rd : RD (wz Z g j (wipeD σ vs) S (wipe σV vs) H) d v)
    (h : asgD t d (wipeD σ vs) = some σ') (q : ∀ σV', RelZ Z g j σ' S σV' H → LinEq Z.lin (wipeD σ vs) (wipe σV vs) σ' σV' → wipe σV' vs = wipe σV vs → Q σV' H) : gT Z.K.K t v (wipe σV vs) H Q := by
  have wset : ∀ (is : List Nat) (us : List V) (τ : L2.St), (∀ i ∈ is, i ∈ vs) → wipe τ vs = wipe σV vs → wipe (setsV is us τ) vs = wipe σV vs := by
    intro is
    induction is with
    | nil => intro us τ _ e; cases us <;> exact e
    | cons i is ih =>
      intro us τ hi e
      cases us with
      | nil => exact e
      | cons u us =>
        unfold setsV
        refine ih us _ (fun k hk => hi k (List.mem_cons_of_mem _ hk)) ?_
        rw [← e]
        refine List.ext_getElem? fun k => ?_
        by_cases hk : k ∈ vs
        · have w1 : ∀ τ : L2.St, k < τ.length → (wipe τ vs)[k]? = some none := fun τ hlt => by
            have hb : k < (wipe τ vs).length := by rw [wipe_length]; exact hlt
            cases q : (wipe τ vs)[k]? with
            | none => rw [List.getElem?_eq_none_iff] at q; omega
            | some o =>
              cases o with
              | none => rfl
              | some x => exact absurd hk (wipe_some q).2
          by_cases hlt : k < τ.length
          · rw [w1 τ hlt, w1 _ (by rw [List.length_set]; exact hlt)]
          · rw [List.getElem?_eq_none (by rw [wipe_length, List.length_set]; omega), List.getElem?_eq_none (by rw [wipe_length]; omega)]
        · rw [wipe_out hk, wipe_out hk, List.getElem?_set_ne (fun z => hk (by rw [← z]; exact hi i List.mem_cons_self))]
  have ww : wipe (wipe σV vs) vs = wipe σV vs := by
    refine List.ext_getElem? fun k => ?_
    by_cases hk : k ∈ vs
    · by_cases hlt : k < σV.length
      · have f : ∀ τ : L2.St, k < τ.length → (wipe τ vs)[k]? = some none := fun τ hlt => by
          have hb : k < (wipe τ vs).length := by rw [wipe_length]; exact hlt
          cases q : (wipe τ vs)[k]? with
          | none => rw [List.getElem?_eq_none_iff] at q; omega
          | some o =>
            cases o with
            | none => rfl
            | some x => exact absurd hk (wipe_some q).2
        rw [f _ (by rw [wipe_length]; exact hlt), f _ hlt]
      · rw [List.getElem?_eq_none (by rw [wipe_length, wipe_length]; omega), List.getElem?_eq_none (by rw [wipe_length]; omega)]
    · rw [wipe_out hk, wipe_out hk]
  cases t with
  | nm i =>
    cases h
    have h0 := hl i (hv i List.mem_cons_self)
    exact q _ (R.set h0 rd) (fun k a => (linA_set h0).symm) (wset [i] [v] _ hv ww)
  | tp is =>
    cases d with
    | tup ds =>
      obtain ⟨a, us, rfl, hs, r⟩ := rd.of_tup
      obtain ⟨R', le', e⟩ := sets_rel (fun i hi => hl i (hv i hi)) R r h
      exact ⟨a, us, rfl, hs, e, q _ R' (linEq_sets (fun i hi => hl i (hv i hi)) h e) (wset is us _ hv ww)⟩
    | _ => cases h
theorem OutR.nobind {g : Gd} {j : Nat → Addr} {σ : Sl} {S : Sto} {σV : L2.St} {H : Hp} {α β γ : Type} {rel : Wo → α → β → Prop} {Q' : β → Hp → Prop} {f : α → Sto → Res γ} {P : Res γ → Prop} (hP : P .stuck → False)
    (k : ∀ d S1 j1 v H1, RelZ Z.no g j1 σ S1 σV H1 → Stp j S.length H j1 S1.length H1 → rel (wz Z.no g j1 σ S1 σV H1) d v → P (f d S1) → Q' v H1) :
    ∀ {r : Res α}, P (r.nox.bind f) → OutR Z.no g j σ S σV H rel Q' r
  | .ok d S1, h => fun j1 v H1 R st rd => k d S1 j1 v H1 R st rd h
  | .exc x S1, h => (hP h).elim
  | .stuck, h => hP h
section
variable {K : Kx} {lin : Nat → Bool} {g : Gd} {j : Nat → Addr} {σ : Sl} {S : Sto} {σV : L2.St} {H : Hp} {A : Addr} {o : HO}
theorem le_updH {B : Addr → Prop} (hB : B A) : (wo K lin B j σ S σV H).Le (wo K lin B j σ S σV (upd H A o)) :=
  ⟨rfl, rfl, fun a o' _ h f => ⟨by show upd H A o a = _; rw [upd_ne (fun z => f (by rw [z]; exact .inl hB))]; exact h, f⟩, fun _ _ => rfl, Nat.le_refl _⟩
theorem Rel.updHeld (R : Rel K lin g j σ S σV H) (hB : g.B A) (h0 : g.H0 A = none) {oA : HO} (hA : H A = some oA) (pA : PL A oA) : Rel K lin g j σ S σV (upd H A o) := by
  refine ⟨R.len, R.inj, R.lc, R.ll, R.oc, R.ol, fun a h => ?_, fun i d e => ?_, fun n c e => ?_, fun a o' t h1 h2 => ?_, R.newc, R.newl, R.n0, R.ag, fun a o' h => ?_, tabs_upd R.tabs hA pA⟩
  · obtain ⟨o', e⟩ := R.trk a h
    by_cases ha : a = A
    · subst ha; exact ⟨_, upd_same⟩
    · exact ⟨o', by rw [upd_ne ha]; exact e⟩
  · obtain ⟨v, ev, h1, h2⟩ := R.slots i d e
    refine ⟨v, ev, fun z => (h1 z).mono (le_updH hB), fun z => (h2 z).mono (le_updH hB) fun a o' ea ho _ h => ?_⟩
    show upd H A o a = _
    rw [upd_ne]
    · exact h
    · intro y
      subst ea y
      exact R.ol i a ⟨z, ⟨d, e, ho⟩, ev⟩ hB
  · refine (R.cells n c e).mono (le_updH hB) fun o' _ h => ?_
    show upd H A o (j n) = _
    rw [upd_ne]
    · exact h
    · intro y
      exact R.oc n (List.getElem?_eq_some_iff.mp e).1 (by rw [y]; exact hB)
  · rw [upd_ne]
    · exact R.frame a o' t h1 h2
    · intro y
      subst y
      rw [h0] at h1; cases h1
  · obtain ⟨o2, e⟩ := R.dom a o' h
    by_cases ha : a = A
    · subst ha; exact ⟨_, upd_same⟩
    · exact ⟨o2, by rw [upd_ne ha]; exact e⟩
theorem Stp.updNew {j' : Nat → Addr} {N N' : Nat} {H' : Hp} (s : Stp j N H j' N' H') (hA : H A = none) : Stp j N H j' N' (upd H' A o) :=
  ⟨fun a o' t h f => by rw [upd_ne (ne_of_none h hA)]; exact s.keep a o' t h f, s.ag, s.le, s.new, fun a o' h => by
    by_cases ha : a = A
    · subst ha; exact ⟨_, upd_same⟩
    · rw [upd_ne ha]; exact s.dom a o' h⟩
end
theorem lF_lc {mi : Ag} {t : Tgt} {c : Ts} {m : Ex} {vs : List Nat} (hv : ∀ i ∈ tgS t, i ∈ vs) (hl : ∀ i ∈ vs, Z.lin i = false) (hK : Z.K.K = X.K) {σV : L2.St} {H : Hp} {Q : VK} (h : lF Z (xLc mi t c m vs) σV H Q) : tLc (lI Z mi) (gT X.K t) (lT Z.no c) (lE Z.no m) vs σV H Q := by
  revert h
  rintro ⟨g, j, σ, S, R, h⟩
  refine ⟨g, j, σ, S, R, OutF.bind (fun ds S1 j1 J H1 R1 s1 I1 h1 => ?_) h⟩
  intro A hA
  -- what is wanted of the rest
  let P : Res (List D) → List D → Prop := fun r acc => match r with
    | .ok l S3 => ∀ j3 H3 fullV, RelZ Z (g.hold A) j3 σ S3 σV H3 → Stp j1 S1.length H1 j3 S3.length H3 → H3 A = some (.lst fullV) → (acc ++ l).length ≤ sizeLine → RDs (wz Z (g.hold A) j3 σ S3 σV H3) (acc ++ l) fullV → Q (.ref A) H3
    | _ => False
  have h0 : g.H0 A = none := R1.fresh hA
  have hP : ∀ acc, P .stuck acc → False := fun acc z => z
  have hs : P (lcL t c m (wipeD σ vs) ds S1) [] := by
    revert h1
    generalize lcL t c m (wipeD σ vs) ds S1 = r
    intro h1
    match r, h1 with
    | .ok l S3, h1 => exact fun j3 H3 fullV R3 st ha hl' rd => h1 j3 A fullV H3 ha R3 st hl' rd hA
    | .stuck, h1 => exact h1
    | .exc x S3, h1 => exact h1
  refine ⟨fun i k H2 => ∃ j2 S2 acc accV, RelZ Z (g.hold A) j2 σ S2 σV H2 ∧ Stp j1 S1.length H1 j2 S2.length H2 ∧ H2 A = some (.lst accV) ∧ RDs (wz Z (g.hold A) j2 σ S2 σV H2) acc accV ∧ acc.length ≤ i ∧ P (lcL t c m (wipeD σ vs) (ds.drop i) S2) acc ∧ k = ds.length - i ∧ i ≤ ds.length,
    ⟨ds.length, j1, S1, [], [], R1.hold hA, Stp.alloc hA, upd_same, .nil, Nat.le_refl _, hs, by omega, Nat.zero_le _⟩, ?_⟩
  rintro i k H2 ⟨j2, S2, acc, accV, R2, s2, ha2, rd2, la, h2, rfl, hi⟩
  have le2 : (wz Z g j1 σ S1 σV H1).Le (wz Z (g.hold A) j2 σ S2 σV H2) := le_held s2 hA
  by_cases hlt : i < ds.length
  · refine .inr ⟨I1.go i _ hlt le2, fun H2 => ∃ j2 S2 acc accV, RelZ Z (g.hold A) j2 σ S2 σV H2 ∧ Stp j1 S1.length H1 j2 S2.length H2 ∧ H2 A = some (.lst accV) ∧ RDs (wz Z (g.hold A) j2 σ S2 σV H2) acc accV ∧ acc.length ≤ i + 1 ∧ P (lcL t c m (wipeD σ vs) (ds.drop (i + 1)) S2) acc,
      fun H' ⟨j3, S3, acc3, accV3, R3, s3, ha3, rd3, la3, h3⟩ => ⟨ds.length - (i + 1), by omega, j3, S3, acc3, accV3, R3, s3, ha3, rd3, la3, h3, rfl, hlt⟩, fun x H3 hy => ?_⟩
    obtain ⟨hH, rd⟩ := I1.yld i _ _ x H3 (List.getElem?_eq_getElem hlt) le2 R2.trk hy
    obtain ⟨R3, st3⟩ := R2.yield hH
    have E3 : LinEq Z.lin σ σV (wipeD σ vs) (wipe σV vs) := linEq_wipe hl
    have R3' : RelZ Z (g.hold A) j2 (wipeD σ vs) S2 (wipe σV vs) H3 := R3.wipe hl
    rw [List.drop_eq_getElem_cons hlt] at h2
    simp only [lcL] at h2
    rw [← hK]
    cases q : asgD t ds[i] (wipeD σ vs) with
    | none => rw [q] at h2; exact h2.elim
    | some σ4 =>
      rw [q] at h2
      dsimp only at h2
      refine asg_comp hv hl R3' (rd.mono E3.le) q fun σV4 R4 E4 hw => ⟨hw, g.hold A, j2, σ4, S2, R4, ?_⟩
      have E : LinEq Z.lin σ σV σ4 σV4 := E3.trans E4
      refine OutR.nobind (P := fun r => P r acc) (hP acc) (fun b S5 j5 v H5 R5 s5 rb h5 => ?_) h2
      cases (show b = v from rb)
      cases b with
      | false =>
        rw [if_neg Bool.false_ne_true] at h5 ⊢
        have s25 := st3.trans s5
        refine ⟨j5, S5, acc, accV, R2.other R5 s25 E, s2.trans s25, s25.keep A _ nt_lst ha2 fun n hn z => R2.oc n hn (.inr z), rd2.mono s25.wle, Nat.le_succ_of_le la, h5⟩
      | true =>
        rw [if_pos rfl] at h5 ⊢
        refine ⟨g.hold A, j5, σ4, S5, R5, ?_⟩
        refine OutR.nobind (P := fun r => P r acc) (hP acc) (fun y S6 j6 v H6 R6 s6 ry h6 => ?_) h5
        have s26 := (st3.trans s5).trans s6
        have ha6 := s26.keep A _ nt_lst ha2 fun n hn z => R2.oc n hn (.inr z)
        have R6o := R2.other R6 s26 E
        have hB : (g.hold A).B A := .inr rfl
        have hlen : acc.length < sizeLine := Nat.lt_of_le_of_lt la (Nat.lt_of_lt_of_le hlt I1.len)
        have r6 : RDs (wz Z (g.hold A) j6 σ S6 σV H6) (acc ++ [y]) (accV ++ [v]) := (rd2.mono s26.wle).append (.one (ry.mono E.symm.le))
        refine ⟨accV, ha6, by rw [rd2.length]; exact hlen, j6, S6, acc ++ [y], accV ++ [v], R6o.updHeld hB h0 ha6 pl_lst, (s2.trans s26).updNew hA, upd_same, r6.mono (le_updH hB), by rw [List.length_append]; exact Nat.succ_le_succ la, ?_⟩
        revert h6
        generalize lcL t c m (wipeD σ vs) (ds.drop (i + 1)) S6 = r
        intro h6
        match r, h6 with
        | .ok l S3, h6 =>
          intro j3 H3 fullV R3 st ha hl' rd
          rw [List.append_assoc] at hl' rd
          exact h6 j3 H3 fullV R3 st ha hl' rd
        | .stuck, h6 => exact h6
        | .exc x S3, h6 => exact h6
  · have e : i = ds.length := by omega
    subst e
    refine .inl ⟨I1.stop _ le2, ?_⟩
    rw [List.drop_length] at h2
    exact h2 j2 H2 accV R2 s2 ha2 (by rw [List.append_nil]; exact Nat.le_trans la I1.len) (by rw [List.append_nil]; exact rd2)
theorem df_lc {elt tg iter : Expr} {ifs : List Expr} {scope : Scope} {own : List (Str × Nat)} {mi : Ag} {t : Tgt} {c : Ts} {m : Ex} 
    (hp : PE X (.ListComp elt [⟨tg, iter, ifs, 0⟩] scope pos) (tLc (lI Z mi) (gT X.K t) (lT Z.no c) (lE Z.no m) (own.map (·.2))))
    (hv : ∀ i ∈ tgS t, i ∈ own.map (·.2)) (hl : ∀ i ∈ own.map (·.2), Z.lin i = false) (hK : Z.K.K = X.K := by rfl) : DF X Z (.ListComp elt [⟨tg, iter, ifs, 0⟩] scope pos) (xLc mi t c m (own.map (·.2))) := PE.imp hp fun σV H Q h => lF_lc hv hl hK h
theorem xLc_lst {mi : Ag} {t : Tgt} {c : Ts} {m : Ex} {vs : List Nat} : ∀ σ S d S', xLc mi t c m vs σ S = .ok d S' → ∃ ds, d = .lst ds := fun σ S d S' h => by
  unfold xLc at h
  cases q : mi σ S with
  | ok ds S1 =>
    rw [q] at h
    simp only [Res.bind] at h
    cases q2 : (lcL t c m (wipeD σ vs) ds S1).nox with
    | ok l S2 => rw [q2] at h; cases h; exact ⟨_, rfl⟩
    | exc x S2 => rw [q2] at h; cases h
    | stuck => rw [q2] at h; cases h
  | exc x S1 => rw [q] at h; cases h
  | stuck => rw [q] at h; cases h
end Qi
namespace Qi
open PySem PySem.Spec L2
variable {X : Cx} {Z : Env1} {a b e : Expr} {ma mb : Ex} {pos : Pos}
abbrev Cf := Nat → List D → Sto → Res D
def nolin : Nat → Bool := fun _ => false
/-- what is promised of a def of the text: it does what its meaning does -/
def CallSp (K : Kx) (cf : Cf) (f np : Nat) : Sp := fun vs H Q E => ∃ B j S ds, Rel K nolin ⟨B, H, S.length, j⟩ j [] S [] H ∧ RDs (wo K nolin B j [] S [] H) ds vs ∧ ds.length = np ∧
  match cf f ds S with
  | .ok d S' => ∀ j' v H', Rel K nolin ⟨B, H, S.length, j⟩ j' [] S' [] H' → RD (wo K nolin B j' [] S' [] H') d v → Q v H'
  | .exc x S' => ∀ j' cls dd H', Rel K nolin ⟨B, H, S.length, j⟩ j' [] S' [] H' → RX (wo K nolin B j' [] S' [] H') x cls dd → E cls dd H'
  | .stuck => False
section
variable {K : Kx} {lin : Nat → Bool} {g : Gd} {j j' : Nat → Addr} {σ : Sl} {S S' : Sto} {σV : L2.St} {H H' : Hp}
/-- all but the store that may not be touched -/
def keepB (lin : Nat → Bool) (B : Addr → Prop) (σ : Sl) (σV : L2.St) (a : Addr) : Prop := B a ∨ ∃ i, LinA lin σ σV i a
theorem ff_keepB {B : Addr → Prop} {N : Nat} {a : Addr} : FF nolin (keepB lin B σ σV) j N [] [] a ↔ FF lin B j N σ σV a := by
  unfold FF keepB
  constructor
  · rintro ((h | h) | h | ⟨i, h⟩)
    · exact .inl h
    · exact .inr (.inr h)
    · exact .inr (.inl h)
    · exact (noLin h).elim
  · rintro (h | h | h)
    · exact .inl (.inl h)
    · exact .inr (.inl h)
    · exact .inl (.inr h)
theorem le_in {B : Addr → Prop} : (wo K lin B j σ S σV H).Le (wo K nolin (keepB lin B σ σV) j [] S [] H) := ⟨rfl, rfl, fun a o _ h f => ⟨h, fun z => f (ff_keepB.mp z)⟩, fun _ _ => rfl, Nat.le_refl _⟩
theorem le_out {B : Addr → Prop} : (wo K nolin (keepB lin B σ σV) j [] S [] H).Le (wo K lin B j σ S σV H) := ⟨rfl, rfl, fun a o _ h f => ⟨h, fun z => f (ff_keepB.mpr z)⟩, fun _ _ => rfl, Nat.le_refl _⟩
/-- entering a callee -/
theorem Rel.enter (R : Rel K lin g j σ S σV H) : Rel K nolin ⟨keepB lin g.B σ σV, H, S.length, j⟩ j [] S [] H where
  len := rfl
  inj := R.inj
  lc := fun i a n h => (noLin h).elim
  ll := fun i i' a h => (noLin h).elim
  oc := fun n hn z => by
    rcases z with z | ⟨i, z⟩
    · exact R.oc n hn z
    · exact R.lc i _ n z hn rfl
  ol := fun i a h => (noLin h).elim
  trk := fun a h => R.trk a (ff_keepB.mp h)
  slots := fun i d h => by simp at h
  cells := fun n c e => (R.cells n c e).mono le_in fun o _ h => h
  frame := fun a o _ h _ => h
  dom := fun a o h => ⟨o, h⟩
  tabs := R.tabs
  newc := fun n h1 h2 => absurd h2 (by show ¬ n < S.length; have : S.length ≤ n := h1; omega)
  newl := fun i a h => (noLin h).elim
  n0 := Nat.le_refl _
  ag := fun n _ => rfl
/-- the step that a callee makes -/
theorem Rel.stp {B : Addr → Prop} (C : Rel K nolin ⟨B, H, S.length, j⟩ j' [] S' [] H') : Stp j S.length H j' S'.length H' where
  keep := fun a o t h f => C.frame a o t h fun n hn => by rw [C.ag n hn]; exact f n hn
  ag := C.ag
  le := C.n0
  new := C.newc
  dom := C.dom
/-- behind a callee -/
theorem Rel.follow (R : Rel K lin g j σ S σV H) (C : Rel K nolin ⟨keepB lin g.B σ σV, H, S.length, j⟩ j' [] S' [] H') : Rel K lin g j' σ S' σV H' where
  len := R.len
  inj := C.inj
  lc := fun i a n h hn e => C.oc n hn (by rw [e]; exact .inr ⟨i, h⟩)
  ll := R.ll
  oc := fun n hn z => C.oc n hn (.inl z)
  ol := R.ol
  trk := fun a h => C.trk a (ff_keepB.mpr h)
  slots := fun i d e => by
    obtain ⟨v, ev, h1, h2⟩ := R.slots i d e
    have st := C.stp
    refine ⟨v, ev, fun z => (h1 z).mono st.wle, fun z => (h2 z).mono st.wle fun a o ea ho t h => st.keep a o t h fun n hn => ?_⟩
    subst ea
    exact R.lc i a n ⟨z, ⟨d, e, ho⟩, ev⟩ hn
  cells := fun n c e => (C.cells n c e).mono le_out fun o _ h => h
  dom := fun a o h => by
    obtain ⟨o', e⟩ := R.dom a o h
    exact C.dom a o' e
  tabs := C.tabs
  frame := fun a o t h1 h2 => by
    have st := C.stp
    refine st.keep a o t (R.frame a o t h1 fun n hn e => h2 n hn ?_) fun n hn e => ?_
    · rw [st.ag n (Nat.lt_of_lt_of_le hn R.n0)]; exact e
    · by_cases hlt : n < g.n0
      · exact h2 n hlt (by rw [st.ag n hn]; exact e)
      · have := R.newc n (by omega) hn
        rw [e, h1] at this; cases this
  newc := fun n h1 h2 => by
    have st := C.stp
    by_cases hlt : n < S.length
    · rw [st.ag n hlt]; exact R.newc n h1 hlt
    · exact R.fresh (st.new n (by omega) h2)
  newl := R.newl
  n0 := Nat.le_trans R.n0 C.n0
  ag := fun n hn => by
    have e : j' n = j n := C.ag n (Nat.lt_of_lt_of_le hn R.n0)
    rw [e, R.ag n hn]
end
/-- f(..), f a def of the text -/
def xCall (cf : Cf) (f np : Nat) (ms : Ag) : Ex := fun σ S => (ms σ S).bind fun ds S1 => if ds.length = np then cf f ds S1 else .stuck
theorem lE_call {cf : Cf} {f np : Nat} {ms : Ag} {σV : L2.St} {H : Hp} {Q : VK} (h : lE Z (xCall cf f np ms) σV H Q) : tCallSD (CallSp Z.K cf f np) [] (WE Z.W) (lA Z ms) σV H Q := by
  obtain ⟨g, j, σ, S, R, h⟩ := h
  refine ⟨g, j, σ, S, R, OutR.bind (fun ds S1 j1 vs H1 R1 s1 rds h1 => ?_) h⟩
  split at h1
  · rename_i hnp
    rw [List.append_nil]
    refine ⟨keepB Z.lin g.B σ σV, j1, S1, ds, R1.enter, rds.mono le_in, hnp, ?_⟩
    generalize cf f ds S1 = r at h1
    match r, h1 with
    | .ok d S2, h1 => exact fun j2 v H2 C rd => h1 j2 v H2 (R1.follow C) C.stp (rd.mono le_out)
    | .exc x S2, h1 => exact fun j2 cls dd H2 C rx => h1 j2 cls dd H2 (R1.follow C) C.stp (rx.mono le_out)
    | .stuck, h1 => exact h1
  · exact h1.elim
theorem de_call {x : Str} {k np f : Nat} {fa : Addr} {fd : FuncData} {ps : List Str} {cf : Cf} {ms : Ag} {es : List Expr} {p : Pos} (F : FnOk X.prog X.w X.K X.mg X.base (L2.CX X.prog X.w) k fa fd ps (CallSp Z.K cf f np)) (hr : Room k X.A) (hg : Gl X x) (hm : X.mg x = some (.ref fa)) (hk : PySem.W.keepIn X.K (.ref fa) = true) (hb : Binds X.K fd ps [])
    (tk : Takes X Z.W) (ha : DA X Z (e :: es) ms) (hdb : (x == ("__debug__" : Str)) = false := by decide) (he : starEach (e :: es) X.env = (false, eval e X.env) :: starEach es X.env := by rfl) (hpl : (backTo pos (starEach es X.env)).any (·.1) = false := by rfl) : DE X Z (.Call (.Name x p) (e :: es) [] pos) (xCall cf f np ms) :=
  PE.imp (pe_callSD F hr hg hm hk hb .nil (passAt tk) ha hdb he hpl) fun σV H Q h => lE_call h
def startD (ns : Nat) (ds : List D) : Sl := ds.map some ++ List.replicate (ns - ds.length) none
def runB (np ns : Nat) (m : Co) (ds : List D) (S : Sto) : Res D := if ds.length = np then (match m (startD ns ds) S with
  | .ok (.ret d) S' => .ok d S'
  | .ok (.next _) S' => .ok .non S'
  | .exc x S' => .exc x S'
  | _ => .stuck) else .stuck
structure FDef where
  np : Nat
  ns : Nat
  code : Cf → Co
abbrev Tab := Nat → Option FDef
def callN (T : Tab) : Nat → Cf
  | 0 => fun _ _ _ => .stuck
  | k + 1 => fun f ds S => match T f with
    | some d => runB d.np d.ns (d.code (callN T k)) ds S
    | none => .stuck
section
variable {K : Kx} {lin lin' : Nat → Bool} {g : Gd} {j j' : Nat → Addr} {S S' : Sto} {H H' : Hp}
theorem le_relin {B : Addr → Prop} : (wo K lin B j [] S [] H).Le (wo K lin' B j [] S [] H) := ⟨rfl, rfl, fun a o _ h f => ⟨h, fun z => f (z.imp (fun y => y) fun y => y.imp (fun u => u) fun ⟨i, u⟩ => (noLin u).elim)⟩, fun _ _ => rfl, Nat.le_refl _⟩
theorem Rel.relin (R : Rel K lin g j [] S [] H) : Rel K lin' g j [] S [] H :=
  ⟨rfl, R.inj, fun i a n h => (noLin h).elim, fun i i' a h => (noLin h).elim, R.oc, fun i a h => (noLin h).elim, fun a h => R.trk a (h.imp (fun y => y) fun y => y.imp (fun u => u) fun ⟨i, u⟩ => (noLin u).elim),
    fun i d h => by simp at h, fun n c e => (R.cells n c e).mono le_relin fun o _ h => h, R.frame, R.newc, fun i a h => (noLin h).elim, R.n0, R.ag, R.dom, R.tabs⟩
theorem start_get {ns : Nat} {ds : List D} {i : Nat} {d : D} (h : (startD ns ds)[i]? = some (some d)) : ds[i]? = some d := by
  unfold startD at h
  by_cases hi : i < ds.length
  · rw [List.getElem?_append_left (by rw [List.length_map]; exact hi), List.getElem?_map] at h
    cases q : ds[i]? with
    | none => rw [q] at h; cases h
    | some x => rw [q] at h; cases h; rfl
  · rw [List.getElem?_append_right (by rw [List.length_map]; omega), List.getElem?_replicate] at h
    split at h <;> cases h
theorem startV_get {N : List Str} {vs : List V} {i : Nat} {v : V} (h : vs[i]? = some v) : (L2.start N vs)[i]? = some (some v) := by
  unfold L2.start
  have hi := (List.getElem?_eq_some_iff.mp h).1
  rw [List.getElem?_append_left (by rw [List.length_map]; exact hi), List.getElem?_map, h]; rfl
theorem Rel.start {B : Addr → Prop} {N : List Str} {ds : List D} {vs : List V} {np : Nat} (R : Rel K nolin ⟨B, H, S.length, j⟩ j [] S [] H) (rd : RDs (wo K nolin B j [] S [] H) ds vs) (hn : ds.length = np) (hnp : np ≤ N.length) (hl : ∀ i, i < np → lin i = false) :
    Rel K lin ⟨B, H, S.length, j⟩ j (startD N.length ds) S (L2.start N vs) H := by
  have nl : ∀ i a, ¬ LinA lin (startD N.length ds) (L2.start N vs) i a := fun i a ⟨h1, ⟨d, h2, _⟩, _⟩ => by
    have h3 := start_get h2
    have h4 := (List.getElem?_eq_some_iff.mp h3).1
    rw [hl i (by omega)] at h1
    cases h1
  have le : (wo K nolin B j [] S [] H).Le (wo K lin B j (startD N.length ds) S (L2.start N vs) H) := ⟨rfl, rfl, fun a o _ h f => ⟨h, fun z => f (z.imp (fun y => y) fun y => y.imp (fun u => u) fun ⟨i, u⟩ => (nl i a u).elim)⟩, fun _ _ => rfl, Nat.le_refl _⟩
  refine ⟨?_, R.inj, fun i a n h => (nl i a h).elim, fun i i' a h => (nl i a h).elim, R.oc, fun i a h => (nl i a h).elim, fun a h => R.trk a (h.imp (fun y => y) fun y => y.imp (fun u => u) fun ⟨i, u⟩ => (nl i a u).elim), fun i d e => ?_, fun n c e => (R.cells n c e).mono le fun o _ h => h, R.frame, R.newc, fun i a h => (nl i a h).elim, R.n0, R.ag, R.dom, R.tabs⟩
  · have := rd.length
    unfold startD L2.start
    rw [List.length_append, List.length_append, List.length_map, List.length_map, List.length_replicate, List.length_replicate, this]
  · have e' := start_get e
    have hi := (List.getElem?_eq_some_iff.mp e').1
    obtain ⟨v, ev, r⟩ := rd.get e'
    refine ⟨v, startV_get ev, fun _ => r.mono le, fun z => ?_⟩
    rw [hl i (by omega)] at z; cases z
end
/-- the wish within a def: what is wanted of its exceptions -/
abbrev wishE (E : XK) : WX := fun cls dd _ H => E cls dd H
theorem fn_ok {P : Program} {w : World} {K : Kx} {mg : Str → Option Value} {base : Heap} {x qual : Str} {st : Stmt} {fa : Addr} {fd : FuncData} {N ps : List Str} {k r f : Nat} {T : Tab} {d : FDef} {lin : Nat → Bool} (F : Fun K.K x qual st fa fd) (SC : FnScope N ps (defScope st))
    (hT : T f = some d) (hp : ps.length = d.np) (hN : N.length = d.ns) (hl : ∀ i, i < d.np → lin i = false)
    (hbody : ∀ (cdv : Value), fd.code = cdv → ∀ (A : Around) (outer : List Env) (s : Shared) (H : Hp) (E : XK), Room r (A.deeper (PyProof.Rows.envOfC qual (defScope st) s.heap.objs.size fa cdv)) →
      DSs (cxOf (L2.CX P w) P w K.K mg base N qual (defScope st) fa cdv A outer s H E) ⟨K, lin, wishE E⟩ (defBody st) (d.code (callN T k))) :
    FnOk P w K.K mg base (L2.CX P w) (r + 1) fa fd ps (CallSp K (callN T (k + 1)) f d.np) := by
  obtain ⟨oc, od, kV, doc, pm, an, cdv, ct, osl, rfl, lk, hcd⟩ := F.ex
  refine fn_of lk hcd SC (fun vs H Q E h => ?_) fun A outer s H vs Q E hr h => ?_
  · obtain ⟨B, j, S, ds, _, rd, hn, _⟩ := h
    rw [rd.length, hn, hp]
  · obtain ⟨B, j, S, ds, R, rd, hn, h⟩ := h
    refine ⟨_, hbody cdv rfl A outer s H E hr, ⟨B, H, S.length, j⟩, j, startD N.length ds, S, R.start rd hn ?_ hl, ?_⟩
    · have := congrArg List.length SC.pre
      rw [List.length_take] at this
      omega
    · simp only [callN, hT, runB, hn, if_true] at h
      rw [hN]
      generalize d.code (callN T k) (startD d.ns ds) S = r at h
      match r, h with
      | .ok (.ret v) S', h => exact fun j' u H' R' rd' => h j' u H' R'.relin (rd'.mono le_relin)
      | .ok (.next σ) S', h => exact fun j' σV' H' R' _ => h j' .non H' (Rel.relin (Rel.drop (Z := ⟨K, lin, wishE E⟩) R')) .non
      | .exc y S', h => exact fun j' cls dd _ H' R' rx => h j' cls dd H' R'.relin (rx.mono le_relin)
      | .ok (.brk _) _, h => exact h.elim
      | .ok (.cnt _) _, h => exact h.elim
      | .stuck, h => exact h.elim
/-- below the first level nothing is promised -/
theorem fn_zero {P : Program} {w : World} {K : Kx} {mg : Str → Option Value} {base : Heap} {fa : Addr} {fd : FuncData} {ps : List Str} {r f np : Nat} {T : Tab} : FnOk P w K.K mg base (L2.CX P w) r fa fd ps (CallSp K (callN T 0) f np) :=
  ⟨fun vs H Q E ⟨_, _, _, _, _, _, _, h⟩ => h.elim, fun _ _ _ _ _ _ _ _ _ _ _ _ _ ⟨_, _, _, _, _, _, _, h⟩ => h.elim⟩
end Qi
namespace Qi
open PySem PySem.Spec L2
variable {X : Cx} {Z : Env1} {a b e : Expr} {ma mb : Ex} {pos : Pos}
def putJ (j : Nat → Addr) (N : Nat) (a : Addr) : Nat → Addr := fun n => if n = N then a else j n
theorem putJ_lt {j : Nat → Addr} {N n : Nat} {a : Addr} (h : n < N) : putJ j N a n = j n := by unfold putJ; rw [if_neg (by omega)]
theorem putJ_eq {j : Nat → Addr} {N : Nat} {a : Addr} : putJ j N a N = a := by unfold putJ; rw [if_pos rfl]
section
variable {K : Kx} {lin : Nat → Bool} {g : Gd} {j : Nat → Addr} {σ : Sl} {S : Sto} {σV : L2.St} {H : Hp} {p : Addr} {c c' : Cell}
theorem ff_box {b : Addr} : FF lin g.B (putJ j S.length p) (S.length + 1) σ σV b ↔ FF lin (g.hold p).B j S.length σ σV b := by
  constructor
  · rintro (h | ⟨n, hn, e⟩ | h)
    · exact .inl (.inl h)
    · by_cases hl : n < S.length
      · rw [putJ_lt hl] at e; exact .inr (.inl ⟨n, hl, e⟩)
      · have : n = S.length := by omega
        subst this
        rw [putJ_eq] at e
        exact .inl (.inr e.symm)
    · exact .inr (.inr h)
  · rintro ((h | h) | ⟨n, hn, e⟩ | h)
    · exact .inl h
    · exact .inr (.inl ⟨S.length, Nat.lt_succ_self _, by rw [putJ_eq]; exact h.symm⟩)
    · exact .inr (.inl ⟨n, Nat.lt_succ_of_lt hn, by rw [putJ_lt hn]; exact e⟩)
    · exact .inr (.inr h)
theorem le_box : (wo K lin (g.hold p).B j σ S σV H).Le (wo K lin g.B (putJ j S.length p) σ (S ++ [c]) σV H) := by
  refine ⟨rfl, rfl, fun b o _ h f => ⟨h, fun z => f ?_⟩, fun n hn => putJ_lt hn, by simp⟩
  have z' : FF lin g.B (putJ j S.length p) (S ++ [c]).length σ σV b := z
  rw [List.length_append] at z'
  exact ff_box.mp z'
theorem Rel.box (R : Rel K lin (g.hold p) j σ S σV H) (hc : CV (wo K lin (g.hold p).B j σ S σV H) c p) (h0 : g.H0 p = none) (hb : ¬ g.B p) : Rel K lin g (putJ j S.length p) σ (S ++ [c]) σV H := by
  have hlen : (S ++ [c]).length = S.length + 1 := by simp
  have nx : ∀ n, n < (S ++ [c]).length → n < S.length ∨ n = S.length := fun n hn => by rw [hlen] at hn; omega
  refine ⟨R.len, fun n m hn hm e => ?_, fun i b n h hn => ?_, R.ll, fun n hn z => ?_, fun i b h z => R.ol i b h (.inl z), fun b h => ?_, fun i d e => ?_, fun n c' e => ?_, fun b o t h1 h2 => ?_, fun n h1 h2 => ?_, R.newl, ?_, fun n hn => ?_, R.dom, R.tabs⟩
  · rcases nx n hn with h1 | h1 <;> rcases nx m hm with h2 | h2
    · rw [putJ_lt h1, putJ_lt h2] at e; exact R.inj n m h1 h2 e
    · subst h2; rw [putJ_lt h1, putJ_eq] at e; exact (R.oc n h1 (.inr e)).elim
    · subst h1; rw [putJ_lt h2, putJ_eq] at e; exact (R.oc m h2 (.inr e.symm)).elim
    · omega
  · rcases nx n hn with h1 | h1
    · rw [putJ_lt h1]; exact R.lc i b n h h1
    · subst h1; rw [putJ_eq]; exact fun z => R.ol i b h (.inr z.symm)
  · rcases nx n hn with h1 | h1
    · rw [putJ_lt h1] at z; exact R.oc n h1 (.inl z)
    · subst h1; rw [putJ_eq] at z; exact hb z
  · rw [hlen] at h
    exact R.trk b (ff_box.mp h)
  · obtain ⟨v, ev, h1, h2⟩ := R.slots i d e
    exact ⟨v, ev, fun z => (h1 z).mono le_box, fun z => (h2 z).mono le_box fun a o _ _ _ h => h⟩
  · have hn := (List.getElem?_eq_some_iff.mp e).1
    rcases nx n hn with h1 | h1
    · rw [List.getElem?_append_left h1] at e
      rw [putJ_lt h1]
      exact (R.cells n c' e).mono le_box fun o _ h => h
    · subst h1
      rw [List.getElem?_append_right (Nat.le_refl _), Nat.sub_self] at e
      cases e
      rw [putJ_eq]
      exact hc.mono le_box fun o _ h => h
  · refine R.frame b o t h1 fun n hn => ?_
    have := h2 n hn
    rwa [putJ_lt (Nat.lt_of_lt_of_le hn R.n0)] at this
  · rcases nx n h2 with h3 | h3
    · rw [putJ_lt h3]; exact R.newc n h1 h3
    · subst h3; rw [putJ_eq]; exact h0
  · rw [hlen]; exact Nat.le_succ_of_le R.n0
  · rw [putJ_lt (Nat.lt_of_lt_of_le hn R.n0)]
    exact R.ag n hn
theorem Stp.box {j1 : Nat → Addr} {S1 : Sto} {H1 : Hp} (s : Stp j S.length H j1 S1.length H1) (hn : H p = none) : Stp j S.length H (putJ j1 S1.length p) (S1 ++ [c]).length H1 := by
  have hlen : (S1 ++ [c]).length = S1.length + 1 := by simp
  refine ⟨s.keep, fun n h => ?_, by rw [hlen]; exact Nat.le_succ_of_le s.le, fun n h1 h2 => ?_, s.dom⟩
  · rw [putJ_lt (Nat.lt_of_lt_of_le h s.le)]; exact s.ag n h
  · by_cases hl : n < S1.length
    · rw [putJ_lt hl]; exact s.new n h1 hl
    · have : n = S1.length := by rw [hlen] at h2; omega
      subst this
      rw [putJ_eq]; exact hn
theorem le_setc {n : Nat} {o' : HO} (hn : n < S.length) {B : Addr → Prop} : (wo K lin B j σ S σV H).Le (wo K lin B j σ (S.set n c') σV (upd H (j n) o')) := by
  refine ⟨rfl, rfl, fun b o _ h f => ⟨?_, fun z => f ?_⟩, fun _ _ => rfl, by simp⟩
  · show upd H (j n) o' b = _
    rw [upd_ne (fun z => f (by rw [z]; exact .inr (.inl ⟨n, hn, rfl⟩)))]
    exact h
  · have z' : FF lin B j (S.set n c').length σ σV b := z
    rw [List.length_set] at z'
    exact z'
theorem Rel.setc {n : Nat} {o' : HO} (R : Rel K lin g j σ S σV H) (hn : n < S.length) (hc : CV (wo K lin g.B j σ (S.set n c') σV (upd H (j n) o')) c' (j n)) : Rel K lin g j σ (S.set n c') σV (upd H (j n) o') := by
  have hlen : (S.set n c').length = S.length := List.length_set
  refine ⟨R.len, fun a b ha hb => R.inj a b (by rwa [hlen] at ha) (by rwa [hlen] at hb), fun i b m h hm => R.lc i b m h (by rwa [hlen] at hm), R.ll, fun m hm => R.oc m (by rwa [hlen] at hm), R.ol, fun b h => ?_, fun i d e => ?_, fun m c e => ?_, fun b o t h1 h2 => ?_, fun m h1 h2 => R.newc m h1 (by rwa [hlen] at h2), R.newl, by rw [hlen]; exact R.n0, R.ag, fun b o h => ?_, ?_⟩
  · rw [hlen] at h
    obtain ⟨o, e⟩ := R.trk b h
    by_cases hb : b = j n
    · subst hb; exact ⟨_, upd_same⟩
    · exact ⟨o, by rw [upd_ne hb]; exact e⟩
  · obtain ⟨v, ev, h1, h2⟩ := R.slots i d e
    refine ⟨v, ev, fun z => (h1 z).mono (le_setc hn), fun z => (h2 z).mono (le_setc hn) fun b o eb ho _ h => ?_⟩
    show upd H (j n) o' b = _
    subst eb
    rw [upd_ne (Ne.symm (R.lc i b n ⟨z, ⟨d, e, ho⟩, ev⟩ hn))]
    exact h
  · by_cases hm : m = n
    · subst hm
      rw [List.getElem?_set_self hn] at e
      cases e
      exact hc
    · rw [List.getElem?_set_ne (Ne.symm hm)] at e
      refine (R.cells m c e).mono (le_setc hn) fun o _ h => ?_
      show upd H (j n) o' (j m) = _
      rw [upd_ne (fun z => hm (R.inj m n (List.getElem?_eq_some_iff.mp e).1 hn z))]
      exact h
  · rw [upd_ne]
    · exact R.frame b o t h1 h2
    · intro z
      subst z
      by_cases hl : n < g.n0
      · exact h2 n hl rfl
      · rw [R.newc n (by omega) hn] at h1
        cases h1
  · obtain ⟨o2, e⟩ := R.dom b o h
    by_cases hb : b = j n
    · subst hb; exact ⟨_, upd_same⟩
    · exact ⟨o2, by rw [upd_ne hb]; exact e⟩
  · obtain ⟨cc, ec⟩ : ∃ cc, S[n]? = some cc := ⟨S[n], by simp [hn]⟩
    obtain ⟨oA, e1, e2⟩ := (R.cells n cc ec).plain
    exact tabs_upd R.tabs e1 e2
theorem Stp.setc {n : Nat} {o' : HO} (hn : n < S.length) : Stp j S.length H j (S.set n c').length (upd H (j n) o') := by
  rw [List.length_set]
  refine ⟨fun b o _ h f => by rw [upd_ne (Ne.symm (f n hn))]; exact h, fun _ _ => rfl, Nat.le_refl _, fun m h1 h2 => absurd h2 (by omega), fun b o h => ?_⟩
  by_cases hb : b = j n
  · subst hb; exact ⟨_, upd_same⟩
  · exact ⟨o, by rw [upd_ne hb]; exact h⟩
end
def xBox (m : Ex) : Ex := fun σ S => (m σ S).bind fun d S1 => match d with
  | .lst l => .ok (.ref S1.length) (S1 ++ [.lst l])
  | _ => .stuck
theorem de_box (h : DF X Z e ma) : DE X Z e (xBox ma) := PE.imp h fun σV H Q => by
  rintro ⟨g, j, σ, S, R, h⟩
  refine ⟨g, j, σ, S, R, ?_⟩
  unfold xBox at h
  generalize ma σ S = r at h
  match r, h with
  | .ok (.lst ds) S1, h =>
    intro j1 p vs H1 hp R1 s1 hl rd hn
    have R2 := R1.box (c := .lst ds) (.lst hp hl rd) (R.fresh hn) (notB R hn)
    refine h (putJ j1 S1.length p) (.ref p) H1 R2 (s1.box hn) ?_
    have e : p = putJ j1 S1.length p S1.length := putJ_eq.symm
    have r : RD (wz Z g (putJ j1 S1.length p) σ (S1 ++ [.lst ds]) σV H1) (.ref S1.length) (.ref (putJ j1 S1.length p S1.length)) := .ref (by show S1.length < (S1 ++ [Cell.lst ds]).length; simp)
    rw [putJ_eq] at r
    exact r
  | .exc x S1, h => exact h
  | .stuck, h => exact h
  | .ok .non _, h => exact h
  | .ok (.bl _) _, h => exact h
  | .ok (.int _) _, h => exact h
  | .ok (.str _) _, h => exact h
  | .ok (.tup _) _, h => exact h
  | .ok (.dic _) _, h => exact h
  | .ok (.ref _) _, h => exact h
  | .ok (.obj _ _) _, h => exact h
  | .ok (.exc _ _) _, h => exact h
  | .ok (.clo _ _) _, h => exact h
  | .ok (.scr _) _, h => exact h
end Qi
namespace Qi
open PySem PySem.Spec L2
variable {X : Cx} {Z : Env1} {a b e : Expr} {ma mb : Ex} {pos : Pos}
def valD (kds : List (Key × D)) (k : Key) : Option D := (kds.find? fun kv => decide (kv.1 = k)).map (·.2)
def putD (kds : List (Key × D)) (k : Key) (d : D) : List (Key × D) :=
  if (kds.any fun kv => decide (kv.1 = k)) = true then kds.map (fun kv => if kv.1 = k then (kv.1, d) else kv) else kds ++ [(k, d)]
theorem RDs.val {w : Wo} {k : Key} {d : D} : ∀ {kds : List (Key × D)} {kvs : List (Key × V)}, kvs.map (·.1) = kds.map (·.1) → RDs w (kds.map (·.2)) (kvs.map (·.2)) → valD kds k = some d → ∃ v, valV kvs k = some v ∧ RD w d v
  | [], [], _, _, h => by cases h
  | p :: r, q :: t, e, .cons h1 h2, h => by
    simp only [List.map_cons, List.cons.injEq] at e
    by_cases hk : p.1 = k
    · have : valD (p :: r) k = some p.2 := by simp [valD, List.find?_cons, hk]
      rw [this] at h
      cases h
      exact ⟨q.2, valV_pos (e.1.trans hk), h1⟩
    · have : valD (p :: r) k = valD r k := by simp [valD, List.find?_cons, hk]
      rw [this] at h
      obtain ⟨v, hv, rd⟩ := RDs.val e.2 h2 h
      exact ⟨v, by rw [valV_neg (by rw [e.1]; exact hk)]; exact hv, rd⟩
  | [], _ :: _, e, _, _ => by cases e
  | _ :: _, [], e, _, _ => by cases e
theorem any_keys {k : Key} {α β : Type} : ∀ {l : List (Key × α)} {l' : List (Key × β)}, l.map (·.1) = l'.map (·.1) → (l.any fun kv => decide (kv.1 = k)) = (l'.any fun kv => decide (kv.1 = k))
  | [], [], _ => rfl
  | p :: r, q :: t, e => by
    simp only [List.map_cons, List.cons.injEq] at e
    rw [List.any_cons, List.any_cons, e.1, any_keys e.2]
  | [], _ :: _, e => by cases e
  | _ :: _, [], e => by cases e
theorem put_keys {k : Key} {v : V} {d : D} {kds : List (Key × D)} {kvs : List (Key × V)} (e : kvs.map (·.1) = kds.map (·.1)) : (putK kvs k v).map (·.1) = (putD kds k d).map (·.1) := by
  unfold putK putD
  rw [any_keys e]
  split
  · have f : ∀ {α : Type} (x : α) (l : List (Key × α)), (l.map fun kv => if kv.1 = k then (kv.1, x) else kv).map (·.1) = l.map (·.1) := fun x l => by
      rw [List.map_map]
      refine List.map_congr_left fun kv _ => ?_
      simp only [Function.comp]
      split <;> rfl
    rw [f, f, e]
  · simp [e]
theorem RDs.put {w : Wo} {k : Key} {v : V} {d : D} (hd : RD w d v) {kds : List (Key × D)} {kvs : List (Key × V)} (e : kvs.map (·.1) = kds.map (·.1)) (r : RDs w (kds.map (·.2)) (kvs.map (·.2))) : RDs w ((putD kds k d).map (·.2)) ((putK kvs k v).map (·.2)) := by
  unfold putK putD
  rw [any_keys e]
  split
  · have f : ∀ (l : List (Key × D)) (l' : List (Key × V)), l'.map (·.1) = l.map (·.1) → RDs w (l.map (·.2)) (l'.map (·.2)) → RDs w ((l.map fun kv => if kv.1 = k then (kv.1, d) else kv).map (·.2)) ((l'.map fun kv => if kv.1 = k then (kv.1, v) else kv).map (·.2)) := by
      intro l
      induction l with
      | nil =>
        intro l' e r
        cases l' with
        | nil => exact .nil
        | cons p t => cases e
      | cons p t ih =>
        intro l' e r
        cases l' with
        | nil => cases e
        | cons q u =>
          simp only [List.map_cons, List.cons.injEq] at e
          cases r with
          | cons h1 h2 =>
            simp only [List.map_cons]
            rw [e.1]
            refine .cons ?_ (ih u e.2 h2)
            split
            · exact hd
            · exact h1
    exact f kds kvs e r
  · rw [List.map_append, List.map_append]
    exact r.append (.one hd)
theorem putD_len {k : Key} {d : D} (kds : List (Key × D)) : (putD kds k d).length ≤ kds.length + 1 := by
  unfold putD
  split <;> simp
def toKey : D → Option Key
  | .int i => some (.inl i)
  | .str x => some (.inr x)
  | _ => none
theorem toKey_of {w : Wo} {d : D} {v : V} {k : Key} (r : RD w d v) (h : toKey d = some k) : v = kV k := by
  cases d with
  | int i => cases h; exact r.of_int
  | str x => cases h; exact r.of_str
  | _ => cases h
def cellD (S : Sto) (n : Nat) : Option (List (Key × D)) := match S[n]? with
  | some (.dic l) => some l
  | _ => none
theorem cellD_eq {S : Sto} {n : Nat} {l : List (Key × D)} (h : cellD S n = some l) : S[n]? = some (.dic l) := by
  unfold cellD at h
  split at h
  · rename_i e; cases h; exact e
  · cases h
def cellL (S : Sto) (n : Nat) : Option (List D) := match S[n]? with
  | some (.lst l) => some l
  | _ => none
theorem cellL_eq {S : Sto} {n : Nat} {l : List D} (h : cellL S n = some l) : S[n]? = some (.lst l) := by
  unfold cellL at h
  split at h
  · rename_i e; cases h; exact e
  · cases h
/-- d[k], d a cell -/
def oGet (d k : D) (S : Sto) : Res D := match d with
  | .ref n => match cellD S n with
    | some l => match toKey k with
      | some key => match valD l key with
        | some x => .ok x S
        | none => .stuck
      | none => .stuck
    | none => .stuck
  | _ => .stuck
def xGet (a b : Ex) : Ex := fun σ S => (a σ S).bind fun x S1 => (b σ S1).bind fun y S2 => oGet x y S2
theorem de_get (hu : X.A.units + 1 < cLine) (ha : DE X Z a ma) (hb : DE X Z b mb) (hs : NoSl b) : DE X Z (.Subscript a b pos) (xGet ma mb) := PE.imp (pe_dget hu ha hb hs) fun σV H Q => by
  rintro ⟨g, j, σ, S, R, h⟩
  refine ⟨g, j, σ, S, R, OutR.bind (fun d S1 j1 v H1 R1 s1 rd h1 => ?_) h⟩
  refine ⟨g, j1, σ, S1, R1, OutR.bind (fun k S2 j2 u H2 R2 s2 rk h2 => ?_) h1⟩
  have rd2 := rd.mono (s2.wle (K := Z.K) (lin := Z.lin) (B := g.B) (σ := σ) (σV := σV))
  cases d with
  | ref n =>
    obtain ⟨rfl, hn⟩ := rd2.of_ref
    simp only [oGet] at h2
    cases q : cellD S2 n with
    | none => rw [q] at h2; exact h2.elim
    | some l =>
      rw [q] at h2
      dsimp only at h2
      cases q2 : toKey k with
      | none => rw [q2] at h2; exact h2.elim
      | some key =>
        rw [q2] at h2
        dsimp only at h2
        cases q3 : valD l key with
        | none => rw [q3] at h2; exact h2.elim
        | some x =>
          rw [q3] at h2
          have hc := R2.cells n _ (cellD_eq q)
          cases hc with
          | dic hH hl ek r =>
            obtain ⟨v, hv, rv⟩ := r.val ek q3
            have ev := toKey_of rk q2
            subst ev
            refine ⟨_, v, rfl, ?_, h2 j2 v H2 R2 Stp.refl rv⟩
            rw [← hv]
            exact .k hH
  | _ => exact h2.elim
/-- d[k] = e, d a cell -/
def cPutD (md mk m : Ex) : Co := fun σ S => (m σ S).bind fun x S1 => (md σ S1).bind fun d S2 => (mk σ S2).bind fun k S3 => match d with
  | .ref n => match cellD S3 n with
    | some l => match toKey k with
      | some key => if szOk (l.length + 1) = true then .ok (.next σ) (S3.set n (.dic (putD l key x))) else .stuck
      | none => .stuck
    | none => .stuck
  | _ => .stuck
theorem ds_putD {st : Stmt} {m : Ex} (hp : PS X st (sDPut (lE Z ma) (lE Z mb) (lE Z m))) : DS X Z st (cPutD ma mb m) := PS.imp hp fun D σV H => by
  rintro ⟨g, j, σ, S, R, h⟩
  refine ⟨g, j, σ, S, R, OutC.bind (fun x S1 j1 y H1 R1 s1 rx h1 => ?_) h⟩
  refine ⟨g, j1, σ, S1, R1, OutC.bind (fun d S2 j2 v H2 R2 s2 rd h2 => ?_) h1⟩
  refine ⟨g, j2, σ, S2, R2, OutC.bind (fun k S3 j3 u H3 R3 s3 rk h3 => ?_) h2⟩
  have rd2 := rd.mono (s3.wle (K := Z.K) (lin := Z.lin) (B := g.B) (σ := σ) (σV := σV))
  have rx2 := rx.mono ((s2.trans s3).wle (K := Z.K) (lin := Z.lin) (B := g.B) (σ := σ) (σV := σV))
  cases d with
  | ref n =>
    obtain ⟨rfl, hn⟩ := rd2.of_ref
    dsimp only at h3
    cases q : cellD S3 n with
    | none => rw [q] at h3; exact h3.elim
    | some l =>
      rw [q] at h3
      dsimp only at h3
      cases q2 : toKey k with
      | none => rw [q2] at h3; exact h3.elim
      | some key =>
        rw [q2] at h3
        dsimp only at h3
        split at h3
        · rename_i hz
          have hc := R3.cells n _ (cellD_eq q)
          have hlt : n < S3.length := hn
          cases hc with
          | @dic _ kvs _ hH hl ek r =>
            have ev := toKey_of rk q2
            subst ev
            have hlk : kvs.length = l.length := by
              have := congrArg List.length ek
              rwa [List.length_map, List.length_map] at this
            refine ⟨_, _, rfl, DPut.k hH ?_, ?_⟩
            · rw [hlk]
              exact Nat.lt_of_lt_of_le (Nat.lt_succ_self _) (szOk_le hz)
            · refine h3 j3 σV _ (R3.setc hlt ?_) (le_setc hlt)
              exact .dic upd_same (Nat.le_trans (putD_len _) (szOk_le hz)) (put_keys ek) ((RDs.put rx2 ek r).mono (le_setc hlt))
        · exact h3.elim
  | _ => exact h3.elim
/-- xs[i] = e, xs a cell -/
def cSetR (md mi m : Ex) : Co := fun σ S => (m σ S).bind fun x S1 => (md σ S1).bind fun d S2 => (mi σ S2).bind fun k S3 => match d with
  | .ref n => match cellL S3 n with
    | some l => match k with
      | .int i => match ixN l.length i with
        | some p => .ok (.next σ) (S3.set n (.lst (l.set p x)))
        | none => .stuck
      | _ => .stuck
    | none => .stuck
  | _ => .stuck
theorem ds_setR {st : Stmt} {m : Ex} (hp : PS X st (tAsg (lE Z m) (gSub (lE Z ma) (lE Z mb) rSetL))) : DS X Z st (cSetR ma mb m) := PS.imp hp fun D σV H => by
  rintro ⟨g, j, σ, S, R, h⟩
  refine ⟨g, j, σ, S, R, OutC.bind (fun x S1 j1 y H1 R1 s1 rx h1 => ?_) h⟩
  refine ⟨g, j1, σ, S1, R1, OutC.bind (fun d S2 j2 v H2 R2 s2 rd h2 => ?_) h1⟩
  refine ⟨g, j2, σ, S2, R2, OutC.bind (fun k S3 j3 u H3 R3 s3 rk h3 => ?_) h2⟩
  have rd2 := rd.mono (s3.wle (K := Z.K) (lin := Z.lin) (B := g.B) (σ := σ) (σV := σV))
  have rx2 := rx.mono ((s2.trans s3).wle (K := Z.K) (lin := Z.lin) (B := g.B) (σ := σ) (σV := σV))
  cases d with
  | ref n =>
    obtain ⟨rfl, hn⟩ := rd2.of_ref
    dsimp only at h3
    cases q : cellL S3 n with
    | none => rw [q] at h3; exact h3.elim
    | some l =>
      rw [q] at h3
      dsimp only at h3
      cases k with
      | int i =>
        dsimp only at h3
        cases q2 : ixN l.length i with
        | none => rw [q2] at h3; exact h3.elim
        | some p =>
          rw [q2] at h3
          have hc := R3.cells n _ (cellL_eq q)
          have hlt : n < S3.length := hn
          cases hc with
          | @lst _ vs _ hH hl r =>
            rw [rk.of_int]
            refine ⟨_, vs, i, p, rfl, rfl, hH, by rw [r.length]; exact q2, ?_⟩
            refine h3 j3 σV _ (R3.setc hlt ?_) (le_setc hlt)
            exact .lst upd_same (by rw [List.length_set]; exact hl) ((RDs.set rx2 p r).mono (le_setc hlt))
      | _ => exact h3.elim
  | _ => exact h3.elim
/-- xs[i] = e, xs linear -/
def cSetI (i : Nat) (mi m : Ex) : Co := fun σ S => (m σ S).bind fun x S1 => withL i (fun l σ S1 => (mi σ S1).bind fun k S3 => match k with
  | .int n => match ixN l.length n with
    | some p => .ok (.next (σ.set i (some (.lst (l.set p x))))) S3
    | none => .stuck
  | _ => .stuck) σ S1
theorem ds_setI {st : Stmt} {m : Ex} {i : Nat} (hp : PS X st (tAsg (lE Z m) (gSub (tVar i) (lE Z mb) rSetL))) (hl : Z.lin i = true) : DS X Z st (cSetI i mb m) := PS.imp hp fun D σV H => by
  rintro ⟨g, j, σ, S, R, h⟩
  refine ⟨g, j, σ, S, R, OutC.bind (fun x S1 j1 y H1 R1 s1 rx h1 => ?_) h⟩
  obtain ⟨l, p, vs0, e1, ev, ha0, h1⟩ := withL_of R1 hl h1
  refine ⟨.ref p, ev, g, j1, σ, S1, R1, OutC.bind (fun k S3 j3 u H3 R3 s3 rk h3 => ?_) h1⟩
  obtain ⟨a', vs, ea, L, ha, r⟩ := linear_or R3 hl ev e1
  cases ea
  have hlen : l.length ≤ sizeLine := by
    obtain ⟨_, _, _, _, _, z, _⟩ := R3.linear hl e1
    exact z
  have rx2 := rx.mono (s3.wle (K := Z.K) (lin := Z.lin) (B := g.B) (σ := σ) (σV := σV))
  cases k with
  | int n =>
    dsimp only at h3
    cases q2 : ixN l.length n with
    | none => rw [q2] at h3; exact h3.elim
    | some q =>
      rw [q2] at h3
      rw [rk.of_int]
      refine ⟨p, vs, n, q, rfl, rfl, ha, by rw [r.length]; exact q2, ?_⟩
      exact h3 j3 σV _ (R3.updL L e1 (by rw [List.length_set]; exact hlen) (RDs.set rx2 q r)) (le_upd L e1)
  | _ => exact h3.elim
end Qi
namespace Qi
open PySem PySem.Spec L2
variable {X : Cx} {Z : Env1} {a b e : Expr} {ma mb : Ex} {pos : Pos}
def evP : List (Key × Ex) → Sl → Sto → Res (List (Key × D))
  | [], _, S => .ok [] S
  | (k, m) :: r, σ, S => (m σ S).bind fun d S1 => (evP r σ S1).bind fun l S2 => .ok ((k, d) :: l) S2
def xDisp (ps : List (Key × Ex)) : Ex := fun σ S => (evP ps σ S).bind fun l S1 => .ok (.ref S1.length) (S1 ++ [.dic l])
def RKs (w : Wo) (l : List (Key × D)) (ps : List (V × V)) : Prop := ps.map (·.1) = l.map (fun kv => kV kv.1) ∧ RDs w (l.map (·.2)) (ps.map (·.2))
theorem pairs_of {ps : List (Key × Ex)} : ∀ {g : Gd} {j : Nat → Addr} {σ : Sl} {S : Sto} {σV : L2.St} {H : Hp} {Q : List (V × V) → Hp → Prop}, RelZ Z g j σ S σV H → OutR Z g j σ S σV H RKs Q (evP ps σ S) → tPairs (ps.map fun p => (tC (kV p.1), lE Z p.2)) σV H Q := by
  induction ps with
  | nil =>
    intro g j σ S σV H Q R h
    exact h j [] H R Stp.refl ⟨rfl, .nil⟩
  | cons p r ih =>
    intro g j σ S σV H Q R h
    refine ⟨g, j, σ, S, R, OutR.bind (fun d S1 j1 v H1 R1 s1 rd h1 => ?_) h⟩
    refine ih R1 (OutR.bind (fun l S2 j2 qs H2 R2 s2 rl h2 => ?_) h1)
    exact h2 j2 _ H2 R2 Stp.refl ⟨by simp only [List.map_cons]; rw [rl.1], .cons (rd.mono s2.wle) rl.2⟩
theorem merge_nodup : ∀ (more acc : List (Key × V)), (more.map (·.1)).Nodup → (∀ k ∈ more.map (·.1), k ∉ acc.map (·.1)) → mergeK acc more = acc ++ more
  | [], acc, _, _ => by simp [mergeK]
  | p :: r, acc, nd, h => by
    have h1 : mergeK acc (p :: r) = mergeK (putK acc p.1 p.2) r := rfl
    have h2 : putK acc p.1 p.2 = acc ++ [(p.1, p.2)] := by
      unfold putK
      rw [if_neg]
      intro z
      obtain ⟨q, hq, e⟩ := List.any_eq_true.mp z
      exact h p.1 (by simp) (List.mem_map.mpr ⟨q, hq, of_decide_eq_true e⟩)
    rw [List.map_cons, List.nodup_cons] at nd
    rw [h1, h2, merge_nodup r _ nd.2 fun k hk => by
      rw [List.map_append, List.mem_append]
      rintro (z | z)
      · exact h k (by simp only [List.map_cons, List.mem_cons]; exact .inr hk) z
      · simp at z
        rw [z] at hk
        exact nd.1 hk, List.append_assoc]
    rfl
theorem pairs_kv : ∀ {l : List (Key × D)} {ps : List (V × V)}, ps.map (·.1) = l.map (fun kv => kV kv.1) → ∃ kvs : List (Key × V), ps = kvs.map (fun kv => (kV kv.1, kv.2)) ∧ kvs.map (·.1) = l.map (·.1) ∧ kvs.map (·.2) = ps.map (·.2)
  | [], [], _ => ⟨[], rfl, rfl, rfl⟩
  | p :: r, q :: t, e => by
    simp only [List.map_cons, List.cons.injEq] at e
    obtain ⟨kvs, e1, e2, e3⟩ := pairs_kv e.2
    refine ⟨(p.1, q.2) :: kvs, ?_, ?_, ?_⟩
    · simp only [List.map_cons]; rw [← e1, ← e.1]
    · simp only [List.map_cons]; rw [e2]
    · simp only [List.map_cons]; rw [e3]
  | [], _ :: _, e => by cases e
  | _ :: _, [], e => by cases e
theorem evP_keys : ∀ {ps : List (Key × Ex)} {σ : Sl} {S S' : Sto} {l : List (Key × D)}, evP ps σ S = .ok l S' → l.map (·.1) = ps.map (·.1)
  | [], _, _, _, _, h => by cases h; rfl
  | (k, m) :: r, σ, S, S', l, h => by
    simp only [evP] at h
    cases q : m σ S with
    | ok d S1 =>
      rw [q] at h
      simp only [Res.bind] at h
      cases q2 : evP r σ S1 with
      | ok t S2 =>
        rw [q2] at h
        cases h
        simp only [List.map_cons]
        rw [evP_keys q2]
      | exc x S2 => rw [q2] at h; cases h
      | stuck => rw [q2] at h; cases h
    | exc x S1 => rw [q] at h; cases h
    | stuck => rw [q] at h; cases h
theorem de_disp {ps : List (Key × Ex)} {ex : Expr} (hp : PE X ex (tDisp (ps.map fun p => (tC (kV p.1), lE Z p.2)))) (hn : (ps.map (·.1)).Nodup) (h15 : ps.length ≤ 15) : DE X Z ex (xDisp ps) := PE.imp hp fun σV H Q => by
  rintro ⟨g, j, σ, S, R, h⟩
  intro p hp0
  have R0 := R.hold (o := .dK []) hp0
  refine pairs_of R0 ?_
  have hk : ∀ l S', evP ps σ S = .ok l S' → l.map (·.1) = ps.map (·.1) := fun l S' e => evP_keys e
  unfold xDisp at h
  generalize evP ps σ S = r at h hk
  match r, h, hk with
  | .ok l S1, h, hk =>
    intro j1 qs H1 R1 s1 rl
    obtain ⟨kvs, e1, e2, e3⟩ := pairs_kv rl.1
    have s0 : Stp j S.length H j1 S1.length H1 := (Stp.alloc hp0).trans s1
    have hH1 : H1 p = some (.dK []) := s1.keep p _ nt_dK upd_same fun n hn z => R0.oc n hn (.inr z)
    have hb : ¬ g.B p := notB R hp0
    have h0 := R.fresh hp0
    have hl : l.length = ps.length := by
      have := congrArg List.length (hk l S1 rfl)
      rwa [List.length_map, List.length_map] at this
    have hlk : kvs.length = l.length := by
      have := congrArg List.length e2
      rwa [List.length_map, List.length_map] at this
    refine ⟨hH1, kvs, e1, by omega, ?_⟩
    have hm : mergeK [] kvs = kvs := by
      rw [merge_nodup kvs [] (by rw [e2, hk l S1 rfl]; exact hn) (by simp)]
      rfl
    rw [hm]
    have hB : (g.hold p).B p := .inr rfl
    have R2 : RelZ Z (g.hold p) j1 σ S1 σV (upd H1 p (.dK kvs)) := R1.updHeld hB h0 hH1 pl_dK
    have hr : RDs (wz Z (g.hold p) j1 σ S1 σV (upd H1 p (.dK kvs))) (l.map (·.2)) (kvs.map (·.2)) := by
      rw [e3]
      exact rl.2.mono (le_updH hB)
    have R3 := R2.box (c := .dic l) (.dic upd_same (by rw [hl]; exact small_len (by omega)) e2 hr) h0 hb
    refine h (putJ j1 S1.length p) (.ref p) _ R3 ((s0.updNew hp0).box hp0) ?_
    have r : RD (wz Z g (putJ j1 S1.length p) σ (S1 ++ [.dic l]) σV (upd H1 p (.dK kvs))) (.ref S1.length) (.ref (putJ j1 S1.length p S1.length)) := .ref (by show S1.length < (S1 ++ [Cell.dic l]).length; simp)
    rw [putJ_eq] at r
    exact r
  | .exc x S1, h, _ => exact fun j' cls dd H' R' st rx => h j' cls dd H' (R'.free fun a z => .inl z) ((Stp.alloc hp0).trans st) (rx.mono (le_free fun a z => .inl z))
  | .stuck, h, _ => exact h
inductive Ty where
  | int | bool | str | tuple | list | dict
  deriving DecidableEq
def Ty.nm : Ty → String
  | .int => "int" | .bool => "bool" | .str => "str" | .tuple => "tuple" | .list => "list" | .dict => "dict"
def isT (t : Ty) : D → Option Bool
  | .non => some false
  | .bl _ => some (t == .int || t == .bool)
  | .int _ => some (t == .int)
  | .str _ => some (t == .str)
  | .tup _ => some (t == .tuple)
  | .lst _ => some (t == .list)
  | .dic _ => some (t == .dict)
  | _ => none
def oIsT (t : Ty) (d : D) (S : Sto) : Res D := match isT t d with
  | some b => .ok (.bl b) S
  | none => .stuck
theorem kit_ty {K : PySem.W.Frag} (t : Ty) : PySem.W.kitOne K (.type "NoneType") (.type t.nm) = some false ∧ PySem.W.kitOne K (.type "bool") (.type t.nm) = some (t == .int || t == .bool) ∧ PySem.W.kitOne K (.type "int") (.type t.nm) = some (t == .int) ∧
    PySem.W.kitOne K (.type "str") (.type t.nm) = some (t == .str) ∧ PySem.W.kitOne K (.type "tuple") (.type t.nm) = some (t == .tuple) ∧ PySem.W.kitOne K (.type "list") (.type t.nm) = some (t == .list) ∧ PySem.W.kitOne K (.type "dict") (.type t.nm) = some (t == .dict) := by
  cases t <;> refine ⟨?_, ?_, ?_, ?_, ?_, ?_, ?_⟩ <;> rfl
theorem tyx_of {w : Wo} {d : D} {v : V} (t : Ty) {b : Bool} (h : RL w d v) (hb : isT t d = some b) : ∃ u, TyX w.K.K w.H v u ∧ PySem.W.kitOne w.K.K u (.type t.nm) = some b := by
  obtain ⟨k1, k2, k3, k4, k5, k6, k7⟩ := kit_ty (K := w.K.K) t
  cases d with
  | non => rw [(h.rd (by intro _ z; cases z)).of_non]; cases hb; exact ⟨_, .base .non, k1⟩
  | bl c => rw [(h.rd (by intro _ z; cases z)).of_bl]; cases hb; exact ⟨_, .base (.bl c), k2⟩
  | int c => rw [(h.rd (by intro _ z; cases z)).of_int]; cases hb; exact ⟨_, .base (.int c), k3⟩
  | str c => rw [(h.rd (by intro _ z; cases z)).of_str]; cases hb; exact ⟨_, .base (.str c), k4⟩
  | tup l =>
    cases hb
    have h3 := h.rd (by intro _ z; cases z)
    clear h
    cases h3 with
    | tup h4 f hl r =>
      rcases h4 with h4 | ⟨o, h4⟩
      · exact ⟨_, .base (.tup h4), k5⟩
      · exact ⟨_, .fTuple h4, k5⟩
    | tupK h4 hl r =>
      rcases h4 with (h4 | ⟨_, h4⟩) | ⟨o, its, n, h1, h2, _⟩
      · cases h4
      · cases h4
      · exact ⟨_, .kTuple h1 h2, k5⟩
  | lst l =>
    cases hb
    obtain ⟨p, vs, rfl, hs, r⟩ := h.lst
    exact ⟨_, .base (.lst hs), k6⟩
  | dic l =>
    cases hb
    have h3 := h.rd (by intro _ z; cases z)
    clear h
    cases h3 with
    | dic0 h4 f => exact ⟨_, .base (.dK h4), k7⟩
  | _ => cases hb
def rIs1 (K : PySem.W.Frag) (t : Ty) : V → Hp → VK → Prop := fun x H Q => rIsi K [x, .ty t.nm] H Q
theorem pr_isT {K : PySem.W.Frag} (t : Ty) : Pr1 K (rIs1 K t) (oIsT t) := by
  intro Z g j σ S σV H x d Q hK R hd h
  unfold oIsT at h
  cases q : isT t d with
  | none => rw [q] at h; exact h.elim
  | some b =>
    rw [q] at h
    obtain ⟨u, h1, h2⟩ := tyx_of t hd q
    subst hK
    exact ⟨x, .ty t.nm, u, .type t.nm, b, rfl, .ty _, h1, h2, h j _ H R Stp.refl (.bl _)⟩
theorem de_isT {x y : Str} {t : Ty} {p p2 : Pos} (hg : Gl X x) (hm : X.mg x = none) (hv : bootBuiltins x = some (.builtin "isinstance")) (ha : DB X Z e ma) (hy : PE X (.Name y p2) (tC (.ty t.nm)))
    (hn : x ≠ "__name__" := by decide) (hdb : (x == ("__debug__" : Str)) = false := by decide) (he : starEach [e, .Name y p2] X.env = (false, eval e X.env) :: starEach [.Name y p2] X.env := by rfl) (he2 : starEach [.Name y p2] X.env = (false, eval (.Name y p2) X.env) :: starEach [] X.env := by rfl) (hpl : (backTo pos (starEach [.Name y p2] X.env)).any (·.1) = false := by rfl) (hK : Z.K.K = X.K := by rfl) :
    DE X Z (.Call (.Name x p) [e, .Name y p2] [] pos) (x1 (oIsT t) ma) :=
  PE.imp (pe_callB call_isi hg hm hv (pa_cons ha (pa_cons hy pa_nil he2) he) hn hdb he hpl) fun σV H Q q => l1_of (pr_isT t) hK q
def insI (x : Int) : List Int → List Int
  | [] => [x]
  | y :: r => if x ≤ y then x :: y :: r else y :: insI x r
def srtI : List Int → List Int
  | [] => []
  | x :: r => insI x (srtI r)
theorem insI_perm (x : Int) : ∀ l, (insI x l).Perm (x :: l)
  | [] => .refl _
  | y :: r => by
    unfold insI
    split
    · exact .refl _
    · exact ((insI_perm x r).cons y).trans (.swap x y r)
theorem srtI_perm : ∀ l, (srtI l).Perm l
  | [] => .refl _
  | x :: r => (insI_perm x _).trans ((srtI_perm r).cons x)
theorem insI_sorted (x : Int) : ∀ l, l.Pairwise (· ≤ ·) → (insI x l).Pairwise (· ≤ ·)
  | [], _ => by simp [insI]
  | y :: r, h => by
    unfold insI
    rw [List.pairwise_cons] at h
    split
    · rename_i hxy
      rw [List.pairwise_cons]
      refine ⟨fun z hz => ?_, List.pairwise_cons.mpr h⟩
      rcases List.mem_cons.mp hz with rfl | hz
      · exact hxy
      · exact Int.le_trans hxy (h.1 z hz)
    · rename_i hxy
      rw [List.pairwise_cons]
      refine ⟨fun z hz => ?_, insI_sorted x r h.2⟩
      rcases List.mem_cons.mp ((insI_perm x r).mem_iff.mp hz) with rfl | hz
      · omega
      · exact h.1 z hz
theorem srtI_sorted : ∀ l, (srtI l).Pairwise (· ≤ ·)
  | [] => .nil
  | x :: r => insI_sorted x _ (srtI_sorted r)
theorem sorted_uniq : ∀ {l l' : List Int}, l.Perm l' → l.Pairwise (· ≤ ·) → l'.Pairwise (· ≤ ·) → l = l'
  | [], l', p, _, _ => (p.symm.eq_nil).symm
  | x :: r, [], p, _, _ => absurd p.eq_nil (by simp)
  | x :: r, y :: t, p, h, h' => by
    rw [List.pairwise_cons] at h h'
    have e : x = y := by
      have hx : x ∈ y :: t := p.mem_iff.mp List.mem_cons_self
      have hy : y ∈ x :: r := p.mem_iff.mpr List.mem_cons_self
      rcases List.mem_cons.mp hx with e | hx
      · exact e
      · rcases List.mem_cons.mp hy with e | hy
        · exact e.symm
        · have := h.1 y hy
          have := h'.1 x hx
          omega
    subst e
    rw [sorted_uniq (List.Perm.cons_inv p) h.2 h'.2]
def oSortI : D → Sto → Res D
  | .lst l, S => match dInts l with
    | some ns => .ok (.lst ((srtI ns).map D.int)) S
    | none => .stuck
  | _, _ => .stuck
theorem dInts_len : ∀ {l : List D} {ns : List Int}, dInts l = some ns → l.length = ns.length ∧ l = ns.map D.int
  | [], _, h => by cases h; exact ⟨rfl, rfl⟩
  | .int i :: r, _, h => by
    simp only [dInts] at h
    cases q : dInts r with
    | none => rw [q] at h; cases h
    | some ms =>
      rw [q] at h
      cases h
      obtain ⟨h1, h2⟩ := dInts_len q
      exact ⟨by simp [h1], by rw [h2]; rfl⟩
  | .non :: _, _, h => by cases h
  | .bl _ :: _, _, h => by cases h
  | .str _ :: _, _, h => by cases h
  | .tup _ :: _, _, h => by cases h
  | .lst _ :: _, _, h => by cases h
  | .dic _ :: _, _, h => by cases h
  | .ref _ :: _, _, h => by cases h
  | .obj _ _ :: _, _, h => by cases h
  | .exc _ _ :: _, _, h => by cases h
  | .clo _ _ :: _, _, h => by cases h
  | .scr _ :: _, _, h => by cases h
theorem pr_sortIF {K : PySem.W.Frag} : Pr1F K (r1 (rSortedI K)) oSortI := by
  intro Z g j σ S σV H x d Q hK R hd h
  cases d with
  | lst l =>
    have hlen := hd.len
    obtain ⟨p, vs, rfl, hs, r⟩ := hd.lst
    simp only [oSortI] at h
    cases q : dInts l with
    | none => rw [q] at h; exact h.elim
    | some ns =>
      rw [q] at h
      have e := r.dInts q
      subst e
      refine ⟨p, ns, rfl, .of hs, fun ns' t hp hsrt ht => ?_⟩
      have e2 : ns' = srtI ns := sorted_uniq (hp.trans (srtI_perm ns).symm) hsrt (srtI_sorted ns)
      subst e2
      refine out_lstF R ?_ (RDs.of_ints _) h ht
      rw [List.length_map, (srtI_perm ns).length_eq, ← (dInts_len q).1]
      exact hlen
  | _ => exact h.elim
def minI : List Int → Option Int
  | [] => none
  | x :: r => some (r.foldl (fun a b => if b < a then b else a) x)
def maxI : List Int → Option Int
  | [] => none
  | x :: r => some (r.foldl (fun a b => if a < b then b else a) x)
theorem foldl_min : ∀ (r : List Int) (x : Int), (r.foldl (fun a b => if b < a then b else a) x = x ∨ r.foldl (fun a b => if b < a then b else a) x ∈ r) ∧ r.foldl (fun a b => if b < a then b else a) x ≤ x ∧ ∀ y ∈ r, r.foldl (fun a b => if b < a then b else a) x ≤ y
  | [], x => by simp
  | y :: r, x => by
    rw [List.foldl_cons]
    obtain ⟨h1, h2, h3⟩ := foldl_min r (if y < x then y else x)
    refine ⟨?_, ?_, ?_⟩
    · rcases h1 with h1 | h1
      · rw [h1]
        split
        · exact .inr List.mem_cons_self
        · exact .inl rfl
      · exact .inr (List.mem_cons_of_mem _ h1)
    · refine Int.le_trans h2 ?_
      split <;> omega
    · intro z hz
      rcases List.mem_cons.mp hz with rfl | hz
      · refine Int.le_trans h2 ?_
        split <;> omega
      · exact h3 z hz
theorem foldl_max : ∀ (r : List Int) (x : Int), (r.foldl (fun a b => if a < b then b else a) x = x ∨ r.foldl (fun a b => if a < b then b else a) x ∈ r) ∧ x ≤ r.foldl (fun a b => if a < b then b else a) x ∧ ∀ y ∈ r, y ≤ r.foldl (fun a b => if a < b then b else a) x
  | [], x => by simp
  | y :: r, x => by
    rw [List.foldl_cons]
    obtain ⟨h1, h2, h3⟩ := foldl_max r (if x < y then y else x)
    refine ⟨?_, ?_, ?_⟩
    · rcases h1 with h1 | h1
      · rw [h1]
        split
        · exact .inr List.mem_cons_self
        · exact .inl rfl
      · exact .inr (List.mem_cons_of_mem _ h1)
    · refine Int.le_trans ?_ h2
      split <;> omega
    · intro z hz
      rcases List.mem_cons.mp hz with rfl | hz
      · refine Int.le_trans ?_ h2
        split <;> omega
      · exact h3 z hz
def oMinI : D → Sto → Res D
  | .lst l, S => match (dInts l).bind minI with
    | some m => .ok (.int m) S
    | none => .stuck
  | _, _ => .stuck
def oMaxI : D → Sto → Res D
  | .lst l, S => match (dInts l).bind maxI with
    | some m => .ok (.int m) S
    | none => .stuck
  | _, _ => .stuck
theorem pr_minI {K : PySem.W.Frag} : Pr1 K (r1 (rMin K)) oMinI := by
  intro Z g j σ S σV H x d Q hK R hd h
  cases d with
  | lst l =>
    obtain ⟨p, vs, rfl, hs, r⟩ := hd.lst
    simp only [oMinI] at h
    cases q : dInts l with
    | none => rw [q] at h; exact h.elim
    | some ns =>
      rw [q] at h
      cases ns with
      | nil => exact h.elim
      | cons n t =>
        have e := r.dInts q
        subst e
        refine ⟨p, n :: t, rfl, .of hs, by simp, fun m hm hle => ?_⟩
        obtain ⟨h1, h2, h3⟩ := foldl_min t n
        have e2 : m = t.foldl (fun a b => if b < a then b else a) n := by
          have z1 := hle _ (show t.foldl (fun a b => if b < a then b else a) n ∈ n :: t by
            rcases h1 with h1 | h1
            · rw [h1]; exact List.mem_cons_self
            · exact List.mem_cons_of_mem _ h1)
          have z2 : t.foldl (fun a b => if b < a then b else a) n ≤ m := by
            rcases List.mem_cons.mp hm with rfl | hm
            · exact h2
            · exact h3 m hm
          omega
        rw [e2]
        exact h j _ H R Stp.refl (.int _)
  | _ => exact h.elim
theorem pr_maxI {K : PySem.W.Frag} : Pr1 K (r1 (rMax K)) oMaxI := by
  intro Z g j σ S σV H x d Q hK R hd h
  cases d with
  | lst l =>
    obtain ⟨p, vs, rfl, hs, r⟩ := hd.lst
    simp only [oMaxI] at h
    cases q : dInts l with
    | none => rw [q] at h; exact h.elim
    | some ns =>
      rw [q] at h
      cases ns with
      | nil => exact h.elim
      | cons n t =>
        have e := r.dInts q
        subst e
        refine ⟨p, n :: t, rfl, .of hs, by simp, fun m hm hle => ?_⟩
        obtain ⟨h1, h2, h3⟩ := foldl_max t n
        have e2 : m = t.foldl (fun a b => if a < b then b else a) n := by
          have z1 := hle _ (show t.foldl (fun a b => if a < b then b else a) n ∈ n :: t by
            rcases h1 with h1 | h1
            · rw [h1]; exact List.mem_cons_self
            · exact List.mem_cons_of_mem _ h1)
          have z2 : m ≤ t.foldl (fun a b => if a < b then b else a) n := by
            rcases List.mem_cons.mp hm with rfl | hm
            · exact h2
            · exact h3 m hm
          omega
        rw [e2]
        exact h j _ H R Stp.refl (.int _)
  | _ => exact h.elim
end Qi
namespace Qi
open PySem PySem.Spec L2
variable {X : Cx} {Z : Env1} {a b e : Expr} {ma mb : Ex} {pos : Pos}
def lc2L (t : Tgt) (c : Ts) (mi1 : Ag) (t1 : Tgt) (c1 : Ts) (m : Ex) (vs1 : List Nat) (σ : Sl) : List D → Sto → Res (List D)
  | [], S => .ok [] S
  | d :: r, S => match asgD t d σ with
    | some σ1 => (c σ1 S).nox.bind fun b S1 => if b = true then ((mi1 σ1 S1).nox.bind fun ds1 S2 => (lcL t1 c1 m (wipeD σ1 vs1) ds1 S2).nox.bind fun ys S3 => (lc2L t c mi1 t1 c1 m vs1 σ r S3).bind fun zs S4 => .ok (ys ++ zs) S4) else lc2L t c mi1 t1 c1 m vs1 σ r S1
    | none => .stuck
def xLc2 (mi : Ag) (t : Tgt) (c : Ts) (mi1 : Ag) (t1 : Tgt) (c1 : Ts) (m : Ex) (vs vs1 : List Nat) : Ex := fun σ S => (mi σ S).bind fun ds S1 => (lc2L t c mi1 t1 c1 m vs1 (wipeD σ vs) ds S1).nox.bind fun l S2 => if szOk l.length = true then .ok (.lst l) S2 else .stuck
theorem Rel.otherA {K : Kx} {lin : Nat → Bool} {g : Gd} {j j' : Nat → Addr} {σ σ2 : Sl} {S S' : Sto} {σV σV2 : L2.St} {H H' : Hp} {A : Addr} (R : Rel K lin g j σ S σV H) (R2 : Rel K lin (g.hold A) j' σ2 S' σV2 H') (st : Stp j S.length H j' S'.length H') (hA : H A = none) (E : LinEq lin σ σV σ2 σV2) : Rel K lin (g.hold A) j' σ S' σV H' := by
  have le1 : (wo K lin g.B j σ S σV H).Le (wo K lin (g.hold A).B j' σ S' σV H') := le_held (Z := ⟨K, lin, fun _ _ _ _ => False⟩) st hA
  refine ⟨R.len, R2.inj, fun i a n z => R2.lc i a n ((E i a).mp z), R.ll, R2.oc, fun i a z => R2.ol i a ((E i a).mp z), fun a z => R2.trk a (E.ff.mp z), fun i d e => ?_, fun n c e => (R2.cells n c e).mono E.symm.le fun o _ h => h, R2.frame, R2.newc, R.newl, R2.n0, R2.ag, R2.dom, R2.tabs⟩
  obtain ⟨v, ev, h1, h2⟩ := R.slots i d e
  refine ⟨v, ev, fun z => (h1 z).mono le1, fun z => (h2 z).mono le1 fun a o ea ho t h => st.keep a o t h fun n hn => ?_⟩
  subst ea
  exact R.lc i a n ⟨z, ⟨d, e, ho⟩, ev⟩ hn
theorem lF_lc2 {mi mi1 : Ag} {t t1 : Tgt} {c c1 : Ts} {m : Ex} {vs vs1 : List Nat} (hv : ∀ i ∈ tgS t, i ∈ vs) (hl : ∀ i ∈ vs, Z.lin i = false) (hv1 : ∀ i ∈ tgS t1, i ∈ vs1) (hl1 : ∀ i ∈ vs1, Z.lin i = false) (hK : Z.K.K = X.K) {σV : L2.St} {H : Hp} {Q : VK} (h : lF Z (xLc2 mi t c mi1 t1 c1 m vs vs1) σV H Q) :
    tLc2 (lI Z mi) (gT X.K t) (lT Z.no c) (lI Z.no mi1) (gT X.K t1) (lT Z.no c1) (lE Z.no m) vs vs1 σV H Q := by
  revert h
  rintro ⟨g, j, σ, S, R, h⟩
  refine ⟨g, j, σ, S, R, OutF.bind (fun ds S1 j1 J H1 R1 s1 I1 h1 => ?_) h⟩
  intro A hA
  let P : Res (List D) → List D → Prop := fun r acc => match r with
    | .ok l S3 => (acc ++ l).length ≤ sizeLine ∧ ∀ j3 H3 fullV, RelZ Z (g.hold A) j3 σ S3 σV H3 → Stp j1 S1.length H1 j3 S3.length H3 → H3 A = some (.lst fullV) → RDs (wz Z (g.hold A) j3 σ S3 σV H3) (acc ++ l) fullV → Q (.ref A) H3
    | _ => False
  have h0 : g.H0 A = none := R1.fresh hA
  have hP : ∀ acc, P .stuck acc → False := fun acc z => z
  have hs : P (lc2L t c mi1 t1 c1 m vs1 (wipeD σ vs) ds S1) [] := by
    revert h1
    generalize lc2L t c mi1 t1 c1 m vs1 (wipeD σ vs) ds S1 = r
    intro h1
    match r, h1 with
    | .ok l S3, h1 =>
      simp only [Res.nox, Res.bind] at h1
      split at h1
      · rename_i hz
        exact ⟨szOk_le hz, fun j3 H3 fullV R3 st ha rd => h1 j3 A fullV H3 ha R3 st (szOk_le hz) rd hA⟩
      · exact h1.elim
    | .stuck, h1 => exact h1
    | .exc x S3, h1 => exact h1
  have hB : (g.hold A).B A := .inr rfl
  refine ⟨fun i k H2 => ∃ j2 S2 acc accV, RelZ Z (g.hold A) j2 σ S2 σV H2 ∧ Stp j1 S1.length H1 j2 S2.length H2 ∧ H2 A = some (.lst accV) ∧ RDs (wz Z (g.hold A) j2 σ S2 σV H2) acc accV ∧ P (lc2L t c mi1 t1 c1 m vs1 (wipeD σ vs) (ds.drop i) S2) acc ∧ k = ds.length - i ∧ i ≤ ds.length,
    ⟨ds.length, j1, S1, [], [], R1.hold hA, Stp.alloc hA, upd_same, .nil, hs, by omega, Nat.zero_le _⟩, ?_⟩
  rintro i k H2 ⟨j2, S2, acc, accV, R2, s2, ha2, rd2, h2, rfl, hi⟩
  have le2 : (wz Z g j1 σ S1 σV H1).Le (wz Z (g.hold A) j2 σ S2 σV H2) := le_held s2 hA
  by_cases hlt : i < ds.length
  · refine .inr ⟨I1.go i _ hlt le2, fun H2 => ∃ j2 S2 acc accV, RelZ Z (g.hold A) j2 σ S2 σV H2 ∧ Stp j1 S1.length H1 j2 S2.length H2 ∧ H2 A = some (.lst accV) ∧ RDs (wz Z (g.hold A) j2 σ S2 σV H2) acc accV ∧ P (lc2L t c mi1 t1 c1 m vs1 (wipeD σ vs) (ds.drop (i + 1)) S2) acc,
      fun H' ⟨j3, S3, acc3, accV3, R3, s3, ha3, rd3, h3⟩ => ⟨ds.length - (i + 1), by omega, j3, S3, acc3, accV3, R3, s3, ha3, rd3, h3, rfl, hlt⟩, fun x H3 hy => ?_⟩
    obtain ⟨hH, rd⟩ := I1.yld i _ _ x H3 (List.getElem?_eq_getElem hlt) le2 R2.trk hy
    obtain ⟨R3, st3⟩ := R2.yield hH
    have E3 : LinEq Z.lin σ σV (wipeD σ vs) (wipe σV vs) := linEq_wipe hl
    have R3' : RelZ Z (g.hold A) j2 (wipeD σ vs) S2 (wipe σV vs) H3 := R3.wipe hl
    rw [List.drop_eq_getElem_cons hlt] at h2
    simp only [lc2L] at h2
    rw [← hK]
    cases q : asgD t ds[i] (wipeD σ vs) with
    | none => rw [q] at h2; exact h2.elim
    | some σ4 =>
      rw [q] at h2
      dsimp only at h2
      refine asg_comp hv hl R3' (rd.mono E3.le) q fun σV4 R4 E4 hw => ⟨hw, g.hold A, j2, σ4, S2, R4, ?_⟩
      have E : LinEq Z.lin σ σV σ4 σV4 := E3.trans E4
      refine OutR.nobind (P := fun r => P r acc) (hP acc) (fun b S5 j5 v H5 R5 s5 rb h5 => ?_) h2
      cases (show b = v from rb)
      have s25 := st3.trans s5
      have ha5 := s25.keep A _ nt_lst ha2 fun n hn z => R2.oc n hn (.inr z)
      cases b with
      | false =>
        rw [if_neg Bool.false_ne_true] at h5 ⊢
        exact ⟨j5, S5, acc, accV, R2.other R5 s25 E, s2.trans s25, ha5, rd2.mono s25.wle, h5⟩
      | true =>
        rw [if_pos rfl] at h5 ⊢
        refine ⟨g.hold A, j5, σ4, S5, R5, ?_⟩
        refine OutR.nobind (P := fun r => P r acc) (hP acc) (fun ds1 S6 j6 J1 H6 R6 s6 I6 h6 => ?_) h5
        have s26 := s25.trans s6
        have ha6 := s26.keep A _ nt_lst ha2 fun n hn z => R2.oc n hn (.inr z)
        have rd6 : RDs (wz Z (g.hold A) j6 σ4 S6 σV4 H6) acc accV := (rd2.mono s26.wle).mono E.le
        have hs6 : P ((lcL t1 c1 m (wipeD σ4 vs1) ds1 S6).nox.bind fun ys S3 => (lc2L t c mi1 t1 c1 m vs1 (wipeD σ vs) (ds.drop (i + 1)) S3).bind fun zs S4 => .ok (ys ++ zs) S4) acc := h6
        refine ⟨fun q k H7 => ∃ j7 S7 acc7 accV7, RelZ Z (g.hold A) j7 σ4 S7 σV4 H7 ∧ (wz Z.no (g.hold A) j6 σ4 S6 σV4 H6).Le (wz Z.no (g.hold A) j7 σ4 S7 σV4 H7) ∧ Stp j1 S1.length H1 j7 S7.length H7 ∧ H7 A = some (.lst accV7) ∧ RDs (wz Z (g.hold A) j7 σ4 S7 σV4 H7) acc7 accV7 ∧
            P ((lcL t1 c1 m (wipeD σ4 vs1) (ds1.drop q) S7).nox.bind fun ys S3 => (lc2L t c mi1 t1 c1 m vs1 (wipeD σ vs) (ds.drop (i + 1)) S3).bind fun zs S4 => .ok (ys ++ zs) S4) acc7 ∧ k = ds1.length - q ∧ q ≤ ds1.length,
          ⟨ds1.length, j6, S6, acc, accV, R6, Wo.Le.refl _, s2.trans s26, ha6, rd6, hs6, by omega, Nat.zero_le _⟩, ?_⟩
        rintro q k H7 ⟨j7, S7, acc7, accV7, R7, le7, s7, ha7, rd7, h7, rfl, hq⟩
        by_cases hlt1 : q < ds1.length
        · refine .inr ⟨I6.go q _ hlt1 le7, fun H7 => ∃ j7 S7 acc7 accV7, RelZ Z (g.hold A) j7 σ4 S7 σV4 H7 ∧ (wz Z.no (g.hold A) j6 σ4 S6 σV4 H6).Le (wz Z.no (g.hold A) j7 σ4 S7 σV4 H7) ∧ Stp j1 S1.length H1 j7 S7.length H7 ∧ H7 A = some (.lst accV7) ∧ RDs (wz Z (g.hold A) j7 σ4 S7 σV4 H7) acc7 accV7 ∧
              P ((lcL t1 c1 m (wipeD σ4 vs1) (ds1.drop (q + 1)) S7).nox.bind fun ys S3 => (lc2L t c mi1 t1 c1 m vs1 (wipeD σ vs) (ds.drop (i + 1)) S3).bind fun zs S4 => .ok (ys ++ zs) S4) acc7,
            fun H' ⟨j3, S3, acc3, accV3, R3, l3, s3, ha3, rd3, h3⟩ => ⟨ds1.length - (q + 1), by omega, j3, S3, acc3, accV3, R3, l3, s3, ha3, rd3, h3, rfl, hlt1⟩, fun x8 H8 hy8 => ?_⟩
          obtain ⟨hH8, rd8⟩ := I6.yld q _ _ x8 H8 (List.getElem?_eq_getElem hlt1) le7 R7.trk hy8
          obtain ⟨R8, st8⟩ := R7.yield hH8
          have E8 : LinEq Z.lin σ4 σV4 (wipeD σ4 vs1) (wipe σV4 vs1) := linEq_wipe hl1
          have R8' : RelZ Z (g.hold A) j7 (wipeD σ4 vs1) S7 (wipe σV4 vs1) H8 := R8.wipe hl1
          rw [List.drop_eq_getElem_cons hlt1] at h7
          simp only [lcL] at h7
          cases q9 : asgD t1 ds1[q] (wipeD σ4 vs1) with
          | none => rw [q9] at h7; exact h7.elim
          | some σ9 =>
            rw [q9] at h7
            dsimp only at h7
            refine asg_comp hv1 hl1 R8' (rd8.mono E8.le) q9 fun σV9 R9 E9 hw9 => ⟨hw9, g.hold A, j7, σ9, S7, R9, ?_⟩
            have EE : LinEq Z.lin σ4 σV4 σ9 σV9 := E8.trans E9
            refine OutR.nobind (P := fun r => P (r.nox.bind fun ys S3 => (lc2L t c mi1 t1 c1 m vs1 (wipeD σ vs) (ds.drop (i + 1)) S3).bind fun zs S4 => .ok (ys ++ zs) S4) acc7) (fun z => hP acc7 z) (fun b SA jA v HA RA sA rb hA5 => ?_) h7
            cases (show b = v from rb)
            have s8A := st8.trans sA
            have haA := s8A.keep A _ nt_lst ha7 fun n hn z => R7.oc n hn (.inr z)
            cases b with
            | false =>
              rw [if_neg Bool.false_ne_true] at hA5 ⊢
              exact ⟨jA, SA, acc7, accV7, R7.other RA s8A EE, le7.trans s8A.wle, s7.trans s8A, haA, rd7.mono s8A.wle, hA5⟩
            | true =>
              rw [if_pos rfl] at hA5 ⊢
              refine ⟨g.hold A, jA, σ9, SA, RA, ?_⟩
              refine OutR.nobind (P := fun r => P (r.nox.bind fun ys S3 => (lc2L t c mi1 t1 c1 m vs1 (wipeD σ vs) (ds.drop (i + 1)) S3).bind fun zs S4 => .ok (ys ++ zs) S4) acc7) (fun z => hP acc7 z) (fun y SB jB v HB RB sB ry hB6 => ?_) hA5
              have s8B := s8A.trans sB
              have haB := s8B.keep A _ nt_lst ha7 fun n hn z => R7.oc n hn (.inr z)
              have RBo := R7.other RB s8B EE
              have rB : RDs (wz Z (g.hold A) jB σ4 SB σV4 HB) (acc7 ++ [y]) (accV7 ++ [v]) := (rd7.mono s8B.wle).append (.one (ry.mono EE.symm.le))
              -- the rest, and the size
              have key : P ((lcL t1 c1 m (wipeD σ4 vs1) (ds1.drop (q + 1)) SB).nox.bind fun ys S3 => (lc2L t c mi1 t1 c1 m vs1 (wipeD σ vs) (ds.drop (i + 1)) S3).bind fun zs S4 => .ok (ys ++ zs) S4) (acc7 ++ [y]) ∧ acc7.length < sizeLine := by
                revert hB6
                generalize lcL t1 c1 m (wipeD σ4 vs1) (ds1.drop (q + 1)) SB = r
                intro hB6
                match r, hB6 with
                | .ok l S3, hB6 =>
                  simp only [Res.nox, Res.bind] at hB6 ⊢
                  revert hB6
                  generalize lc2L t c mi1 t1 c1 m vs1 (wipeD σ vs) (ds.drop (i + 1)) S3 = r2
                  intro hB6
                  match r2, hB6 with
                  | .ok l2 S4, hB6 =>
                    obtain ⟨z1, z2⟩ := hB6
                    have ea : acc7 ++ (y :: l ++ l2) = acc7 ++ [y] ++ (l ++ l2) := by simp
                    refine ⟨⟨?_, fun j3 H3 fullV R3 st ha rd => z2 j3 H3 fullV R3 st ha ?_⟩, ?_⟩
                    · rw [← ea]; exact z1
                    · rw [ea]; exact rd
                    · rw [List.length_append] at z1
                      simp only [List.cons_append, List.length_cons] at z1
                      omega
                  | .exc x S4, hB6 => exact hB6.elim
                  | .stuck, hB6 => exact hB6.elim
                | .stuck, hB6 => exact hB6.elim
                | .exc x S3, hB6 => exact hB6.elim
              refine ⟨accV7, haB, by rw [rd7.length]; exact key.2, jB, SB, acc7 ++ [y], accV7 ++ [v], RBo.updHeld hB h0 haB pl_lst, le7.trans ((s8B.wle).trans (le_updH hB)), (s7.trans s8B).updNew hA, upd_same, rB.mono (le_updH hB), key.1⟩
        · have e : q = ds1.length := by omega
          subst e
          refine .inl ⟨I6.stop _ le7, ?_⟩
          rw [List.drop_length] at h7
          simp only [lcL, Res.nox, Res.bind] at h7
          refine ⟨j7, S7, acc7, accV7, R1.otherA R7 s7 hA E, s7, ha7, rd7.mono E.symm.le, ?_⟩
          revert h7
          generalize lc2L t c mi1 t1 c1 m vs1 (wipeD σ vs) (ds.drop (i + 1)) S7 = r2
          intro h7
          match r2, h7 with
          | .ok l2 S4, h7 => exact h7
          | .exc x S4, h7 => exact h7
          | .stuck, h7 => exact h7
  · have e : i = ds.length := by omega
    subst e
    refine .inl ⟨I1.stop _ le2, ?_⟩
    rw [List.drop_length] at h2
    exact h2.2 j2 H2 accV R2 s2 ha2 (by rw [List.append_nil]; exact rd2)
theorem df_lc2 {elt tg iter tg1 iter1 : Expr} {ifs ifs1 : List Expr} {scope : Scope} {own : List (Str × Nat)} {mi mi1 : Ag} {t t1 : Tgt} {c c1 : Ts} {m : Ex} {vs1 : List Nat}
    (hp : PE X (.ListComp elt [⟨tg, iter, ifs, 0⟩, ⟨tg1, iter1, ifs1, 0⟩] scope pos) (tLc2 (lI Z mi) (gT X.K t) (lT Z.no c) (lI Z.no mi1) (gT X.K t1) (lT Z.no c1) (lE Z.no m) (own.map (·.2)) vs1))
    (hv : ∀ i ∈ tgS t, i ∈ own.map (·.2)) (hl : ∀ i ∈ own.map (·.2), Z.lin i = false) (hv1 : ∀ i ∈ tgS t1, i ∈ vs1) (hl1 : ∀ i ∈ vs1, Z.lin i = false) (hK : Z.K.K = X.K := by rfl) :
    DF X Z (.ListComp elt [⟨tg, iter, ifs, 0⟩, ⟨tg1, iter1, ifs1, 0⟩] scope pos) (xLc2 mi t c mi1 t1 c1 m (own.map (·.2)) vs1) := PE.imp hp fun σV H Q h => lF_lc2 hv hl hv1 hl1 hK h
theorem xLc2_lst {mi : Ag} {t : Tgt} {c : Ts} {mi1 : Ag} {t1 : Tgt} {c1 : Ts} {m : Ex} {vs vs1 : List Nat} : ∀ σ S d S', xLc2 mi t c mi1 t1 c1 m vs vs1 σ S = .ok d S' → ∃ ds, d = .lst ds := fun σ S d S' h => by
  unfold xLc2 at h
  cases q : mi σ S with
  | ok ds S1 =>
    rw [q] at h
    simp only [Res.bind] at h
    cases q2 : (lc2L t c mi1 t1 c1 m vs1 (wipeD σ vs) ds S1).nox with
    | ok l S2 =>
      rw [q2] at h
      dsimp only at h
      split at h
      · cases h; exact ⟨_, rfl⟩
      · cases h
    | exc x S2 => rw [q2] at h; cases h
    | stuck => rw [q2] at h; cases h
  | exc x S1 => rw [q] at h; cases h
  | stuck => rw [q] at h; cases h
end Qi
namespace Qi
open PySem PySem.Spec L2
variable {X : Cx} {Z : Env1} {a b e : Expr} {ma mb : Ex} {pos : Pos}
def xLcB (i : Nat) (t : Tgt) (c : Ts) (m : Ex) (vs : List Nat) : Ex := fun σ S => match σ[i]? with
  | some (some (.lst l)) => (lcL t c m (wipeD σ vs) l S).nox.bind fun l S2 => .ok (.lst l) S2
  | _ => .stuck
theorem lF_lcB {i0 : Nat} {t : Tgt} {c : Ts} {m : Ex} {vs : List Nat} (hv : ∀ i ∈ tgS t, i ∈ vs) (hl : ∀ i ∈ vs, Z.lin i = false) (hi0 : Z.lin i0 = true) (hK : Z.K.K = X.K) {σV : L2.St} {H : Hp} {Q : VK} (h : lF Z (xLcB i0 t c m vs) σV H Q) : tLc (iSeq X.K (tVar i0)) (gT X.K t) (lT Z.no c) (lE Z.no m) vs σV H Q := by
  revert h
  rintro ⟨g, j1, σ, S1, R1, h⟩
  unfold xLcB at h
  cases q0 : σ[i0]? with
  | none => rw [q0] at h; exact h.elim
  | some o =>
  rw [q0] at h
  cases o with
  | none => exact h.elim
  | some d0 =>
  cases d0 with
  | lst ds => ?_
  | _ => exact h.elim
  have look : ∀ {g : Gd} {j : Nat → Addr} {S : Sto} {H : Hp}, RelZ Z g j σ S σV H → ∃ a us, σV[i0]? = some (some (.ref a)) ∧ H a = some (.lst us) ∧ ds.length ≤ sizeLine ∧ RDs (wz Z g j σ S σV H) ds us := fun R => by
    obtain ⟨v, ev, _, h2⟩ := R.slots i0 _ q0
    cases h2 hi0 with
    | lst h l r => exact ⟨_, _, ev, h, l, r⟩
  obtain ⟨a0, us0, ev0, ha0, hlen0, _⟩ := look R1
  have at2 : ∀ {g : Gd} {j : Nat → Addr} {S : Sto} {H : Hp}, RelZ Z g j σ S σV H → ∃ us, H a0 = some (.lst us) ∧ RDs (wz Z g j σ S σV H) ds us := fun R => by
    obtain ⟨a, us, ev, h, _, r⟩ := look R
    rw [ev0] at ev
    cases ev
    exact ⟨us, h, r⟩
  have h1 : OutF Z g j1 σ S1 σV H Q ((lcL t c m (wipeD σ vs) ds S1).nox.bind fun l S2 => .ok (.lst l) S2) := h
  refine ⟨_, ev0, a0, rfl, .inl ⟨⟨us0, .of ha0⟩, ?_⟩⟩
  have s1 : Stp j1 S1.length H j1 S1.length H := Stp.refl
  intro A hA
  -- what is wanted of the rest
  let P : Res (List D) → List D → Prop := fun r acc => match r with
    | .ok l S3 => ∀ j3 H3 fullV, RelZ Z (g.hold A) j3 σ S3 σV H3 → Stp j1 S1.length H j3 S3.length H3 → H3 A = some (.lst fullV) → (acc ++ l).length ≤ sizeLine → RDs (wz Z (g.hold A) j3 σ S3 σV H3) (acc ++ l) fullV → Q (.ref A) H3
    | _ => False
  have h0 : g.H0 A = none := R1.fresh hA
  have hP : ∀ acc, P .stuck acc → False := fun acc z => z
  have hs : P (lcL t c m (wipeD σ vs) ds S1) [] := by
    revert h1
    generalize lcL t c m (wipeD σ vs) ds S1 = r
    intro h1
    match r, h1 with
    | .ok l S3, h1 => exact fun j3 H3 fullV R3 st ha hl' rd => h1 j3 A fullV H3 ha R3 st hl' rd hA
    | .stuck, h1 => exact h1
    | .exc x S3, h1 => exact h1
  refine ⟨fun i k H2 => ∃ j2 S2 acc accV, RelZ Z (g.hold A) j2 σ S2 σV H2 ∧ Stp j1 S1.length H j2 S2.length H2 ∧ H2 A = some (.lst accV) ∧ RDs (wz Z (g.hold A) j2 σ S2 σV H2) acc accV ∧ acc.length ≤ i ∧ P (lcL t c m (wipeD σ vs) (ds.drop i) S2) acc ∧ k = ds.length - i ∧ i ≤ ds.length,
    ⟨ds.length, j1, S1, [], [], R1.hold hA, Stp.alloc hA, upd_same, .nil, Nat.le_refl _, hs, by omega, Nat.zero_le _⟩, ?_⟩
  rintro i k H2 ⟨j2, S2, acc, accV, R2, s2, ha2, rd2, la, h2, rfl, hi⟩
  have le2 : (wz Z g j1 σ S1 σV H).Le (wz Z (g.hold A) j2 σ S2 σV H2) := le_held s2 hA
  by_cases hlt : i < ds.length
  · refine .inr ⟨⟨(at2 R2).choose, _, .of (at2 R2).choose_spec.1, ((at2 R2).choose_spec.2.get (List.getElem?_eq_getElem hlt)).choose_spec.1⟩, fun H2 => ∃ j2 S2 acc accV, RelZ Z (g.hold A) j2 σ S2 σV H2 ∧ Stp j1 S1.length H j2 S2.length H2 ∧ H2 A = some (.lst accV) ∧ RDs (wz Z (g.hold A) j2 σ S2 σV H2) acc accV ∧ acc.length ≤ i + 1 ∧ P (lcL t c m (wipeD σ vs) (ds.drop (i + 1)) S2) acc,
      fun H' ⟨j3, S3, acc3, accV3, R3, s3, ha3, rd3, la3, h3⟩ => ⟨ds.length - (i + 1), by omega, j3, S3, acc3, accV3, R3, s3, ha3, rd3, la3, h3, rfl, hlt⟩, fun x H3 hy => ?_⟩
    obtain ⟨us2, ha3, r3⟩ := at2 R2
    obtain ⟨rfl, hx⟩ := hy
    obtain ⟨v3, ev3, rd⟩ := r3.get (List.getElem?_eq_getElem hlt)
    have := hx us2 (.of ha3)
    rw [ev3] at this
    cases this
    have hH : H3 = H3 ∨ ∃ T o, H3 T = none ∧ H3 = upd H3 T o := .inl rfl
    obtain ⟨R3, st3⟩ := R2.yield hH
    have E3 : LinEq Z.lin σ σV (wipeD σ vs) (wipe σV vs) := linEq_wipe hl
    have R3' : RelZ Z (g.hold A) j2 (wipeD σ vs) S2 (wipe σV vs) H3 := R3.wipe hl
    rw [List.drop_eq_getElem_cons hlt] at h2
    simp only [lcL] at h2
    rw [← hK]
    cases q : asgD t ds[i] (wipeD σ vs) with
    | none => rw [q] at h2; exact h2.elim
    | some σ4 =>
      rw [q] at h2
      dsimp only at h2
      refine asg_comp hv hl R3' (rd.mono E3.le) q fun σV4 R4 E4 hw => ⟨hw, g.hold A, j2, σ4, S2, R4, ?_⟩
      have E : LinEq Z.lin σ σV σ4 σV4 := E3.trans E4
      refine OutR.nobind (P := fun r => P r acc) (hP acc) (fun b S5 j5 v H5 R5 s5 rb h5 => ?_) h2
      cases (show b = v from rb)
      cases b with
      | false =>
        rw [if_neg Bool.false_ne_true] at h5 ⊢
        have s25 := st3.trans s5
        refine ⟨j5, S5, acc, accV, R2.other R5 s25 E, s2.trans s25, s25.keep A _ nt_lst ha2 fun n hn z => R2.oc n hn (.inr z), rd2.mono s25.wle, Nat.le_succ_of_le la, h5⟩
      | true =>
        rw [if_pos rfl] at h5 ⊢
        refine ⟨g.hold A, j5, σ4, S5, R5, ?_⟩
        refine OutR.nobind (P := fun r => P r acc) (hP acc) (fun y S6 j6 v H6 R6 s6 ry h6 => ?_) h5
        have s26 := (st3.trans s5).trans s6
        have ha6 := s26.keep A _ nt_lst ha2 fun n hn z => R2.oc n hn (.inr z)
        have R6o := R2.other R6 s26 E
        have hB : (g.hold A).B A := .inr rfl
        have hlen : acc.length < sizeLine := Nat.lt_of_le_of_lt la (Nat.lt_of_lt_of_le hlt hlen0)
        have r6 : RDs (wz Z (g.hold A) j6 σ S6 σV H6) (acc ++ [y]) (accV ++ [v]) := (rd2.mono s26.wle).append (.one (ry.mono E.symm.le))
        refine ⟨accV, ha6, by rw [rd2.length]; exact hlen, j6, S6, acc ++ [y], accV ++ [v], R6o.updHeld hB h0 ha6 pl_lst, (s2.trans s26).updNew hA, upd_same, r6.mono (le_updH hB), by rw [List.length_append]; exact Nat.succ_le_succ la, ?_⟩
        revert h6
        generalize lcL t c m (wipeD σ vs) (ds.drop (i + 1)) S6 = r
        intro h6
        match r, h6 with
        | .ok l S3, h6 =>
          intro j3 H3 fullV R3 st ha hl' rd
          rw [List.append_assoc] at hl' rd
          exact h6 j3 H3 fullV R3 st ha hl' rd
        | .stuck, h6 => exact h6
        | .exc x S3, h6 => exact h6
  · have e : i = ds.length := by omega
    subst e
    refine .inl ⟨⟨(at2 R2).choose, .of (at2 R2).choose_spec.1, by rw [(at2 R2).choose_spec.2.length]; exact Nat.le_refl _⟩, ?_⟩
    rw [List.drop_length] at h2
    exact h2 j2 H2 accV R2 s2 ha2 (by rw [List.append_nil]; exact Nat.le_trans la hlen0) (by rw [List.append_nil]; exact rd2)
theorem xLcB_lst {i : Nat} {t : Tgt} {c : Ts} {m : Ex} {vs : List Nat} : ∀ σ S d S', xLcB i t c m vs σ S = .ok d S' → ∃ ds, d = .lst ds := fun σ S d S' h => by
  unfold xLcB at h
  split at h
  · rename_i l _
    cases q2 : (lcL t c m (wipeD σ vs) l S).nox with
    | ok l S2 => rw [q2] at h; cases h; exact ⟨_, rfl⟩
    | exc x S2 => rw [q2] at h; cases h
    | stuck => rw [q2] at h; cases h
  · cases h
theorem df_lcB {elt tg iter : Expr} {ifs : List Expr} {scope : Scope} {own : List (Str × Nat)} {i0 : Nat} {t : Tgt} {c : Ts} {m : Ex}
    (hp : PE X (.ListComp elt [⟨tg, iter, ifs, 0⟩] scope pos) (tLc (iSeq X.K (tVar i0)) (gT X.K t) (lT Z.no c) (lE Z.no m) (own.map (·.2))))
    (hv : ∀ i ∈ tgS t, i ∈ own.map (·.2)) (hl : ∀ i ∈ own.map (·.2), Z.lin i = false) (hi0 : Z.lin i0 = true) (hK : Z.K.K = X.K := by rfl) : DF X Z (.ListComp elt [⟨tg, iter, ifs, 0⟩] scope pos) (xLcB i0 t c m (own.map (·.2))) := PE.imp hp fun σV H Q h => lF_lcB hv hl hi0 hK h
end Qi
namespace Qi
open PySem PySem.Spec L2
variable {X : Cx} {Z : Env1} {a b e : Expr} {ma mb : Ex} {pos : Pos}
def cExtR (mo m : Ex) : Co := fun σ S => (mo σ S).bind fun d S1 => match d with
  | .ref n => match cellL S1 n with
    | some _ => (m σ S1).bind fun e S2 => match cellL S2 n with
      | some l => match seqD (rsv S2 e) with
        | some r => if szOk (l.length + r.length) = true then .ok (.next σ) (S2.set n (.lst (l ++ r))) else .stuck
        | none => .stuck
      | none => .stuck
    | none => .stuck
  | _ => .stuck
theorem ds_extR {c : Expr} {mo : Ex} (hc : PE X c (tBM X.K "list" (rExtA X.K) (lE Z mo) (tCons (lB Z ma) tNil))) (hs : swapsWith c none pos.line X.env = pure false := by rfl) (hK : Z.K.K = X.K := by rfl) : DS X Z (.Expr c pos) (cExtR mo ma) := PS.imp (ps_expr hc hs) fun E σV H => by
  rintro ⟨g, j, σ, S, R, h⟩
  refine ⟨g, j, σ, S, R, OutC.bind (fun d S1 j1 x H1 R1 s1 rd h1 => ?_) h⟩
  cases d with
  | ref n =>
    obtain ⟨rfl, hn⟩ := rd.of_ref
    dsimp only at h1
    cases q : cellL S1 n with
    | none => rw [q] at h1; exact h1.elim
    | some l0 =>
      rw [q] at h1
      dsimp only at h1
      have hc := R1.cells n _ (cellL_eq q)
      cases hc with
      | @lst _ vs0 _ hH0 hl0 r0 =>
      refine ⟨.inl ⟨rfl, vs0, .of hH0⟩, g, j1, σ, S1, R1, OutC.bind (fun e S2 j2 y H2 R2 s2 re h2 => ?_) h1⟩
      have rd2 := rd.mono (s2.wle (K := Z.K) (lin := Z.lin) (B := g.B) (σ := σ) (σV := σV))
      obtain ⟨ej, hn2⟩ := rd2.of_ref
      cases q2 : cellL S2 n with
      | none => rw [q2] at h2; exact h2.elim
      | some l =>
        rw [q2] at h2
        dsimp only at h2
        have hc2 := R2.cells n _ (cellL_eq q2)
        have hlt : n < S2.length := hn2
        have re := re.rsv R2
        generalize rsv S2 e = e at re h2
        have ej' : j1 n = j2 n := V.ref.inj ej
        cases hc2 with
        | @lst _ vs _ hH hl r =>
        cases e with
        | lst t =>
          obtain ⟨p, us, rfl, hs, r2⟩ := re.lst
          simp only [seqD] at h2
          split at h2
          · rename_i hz
            refine .inl ⟨j2 n, p, vs, us, by show V.ref (j1 n) = _; rw [ej'], rfl, hH, hs, ?_, ?_⟩
            · rw [r.length, r2.length]; exact szOk_le hz
            · refine h2 j2 σV _ (R2.setc hlt ?_) (le_setc hlt)
              exact .lst upd_same (by rw [List.length_append]; exact szOk_le hz) ((r.append r2).mono (le_setc hlt))
          · exact h2.elim
        | tup t =>
          obtain ⟨p, us, rfl, hs, r2⟩ := (re.rd (by intro _ z; cases z)).of_tup
          simp only [seqD] at h2
          split at h2
          · rename_i hz
            refine .inr ⟨j2 n, p, vs, us, by show V.ref (j1 n) = _; rw [ej'], rfl, hH, by rw [← hK]; exact hs, ?_, ?_⟩
            · rw [r.length, r2.length]; exact szOk_le hz
            · refine h2 j2 σV _ (R2.setc hlt ?_) (le_setc hlt)
              exact .lst upd_same (by rw [List.length_append]; exact szOk_le hz) ((r.append r2).mono (le_setc hlt))
          · exact h2.elim
        | _ => exact h2.elim
  | _ => exact h1.elim
end Qi
namespace Qi
open PySem PySem.Spec L2 PyProof.Rows
theorem enum_new1 {v : Value} {o : Obj} {P : Heap → Prop} (B : Begins v o P) :
    Meets (Builtin.«enumerate.__new__» ⟨[.type "enumerate", v], []⟩) (fun _ R s => P s.heap ∧
      R (.ok (.ret (.ref (s.heap.push o).objs.size))) { s with heap := (s.heap.push o).push { cls := .type "enumerate", data := .fields #[.none, .bool false, .ref s.heap.objs.size, rawInt 0, .none, .none] } }) :=
  .of_wp fun prog w A R s hyp => by
    obtain ⟨hh, gg, dr, tk, os⟩ := s
    obtain ⟨hP, fin⟩ := hyp
    have hsub := sub_enumerate
    have it1 : ∀ {A' : Around} {E : Value → Shared → Prop} {Q : Value → Shared → Prop}, Q (.ref hh.objs.size) ⟨hh.push o, gg, dr, tk, os⟩ → wpAny (model prog w) A' (pyIter v) Q E ⟨hh, gg, dr, tk, os⟩ :=
      fun q => B.iter prog w _ _ ⟨hh, gg, dr, tk, os⟩ _ hP q
    wp_walk using it1
    refine wpAny_stack_any fun st => wpAny_pure ?_
    split
    · rename_i c _ _ _ _ _
      cases (c == Value.type "enumerate") <;> (wp_walk using it1; exact ⟨_, rfl, fin⟩)
    · wp_walk using it1
      exact ⟨_, rfl, fin⟩
theorem enum_call {prog : Program} {w : World} {A : Around} {E : Value → Shared → Prop} {s : Shared} {v : Value} {o : Obj} {P : Heap → Prop} {Q : Value → Shared → Prop} (B : Begins v o P) (hP : P s.heap)
    (fin : ∀ h', IsEnum h' (s.heap.objs.size + 1) s.heap.objs.size 0 .none → h'.get? s.heap.objs.size = some o → (∀ b u, s.heap.get? b = some u → h'.get? b = some u) → Q (.ref (s.heap.objs.size + 1)) { s with heap := h' }) :
    wpAny (model prog w) A (call (.type "enumerate") [v]) Q E s := by
  have sz : (s.heap.push o).objs.size = s.heap.objs.size + 1 := Heap.size_push ..
  have en : IsEnum ((s.heap.push o).push { cls := .type "enumerate", data := .fields #[.none, .bool false, .ref s.heap.objs.size, rawInt 0, .none, .none] }) (s.heap.objs.size + 1) s.heap.objs.size 0 .none := by
    have q := Heap.get?_push_size (s.heap.push o) (o := { cls := .type "enumerate", data := .fields #[.none, .bool false, .ref s.heap.objs.size, rawInt 0, .none, .none] }) rfl
    rwa [sz] at q
  refine callType_new F.called_enumerate (by decide) (F.typeCall_enumerate_1 _) (F.newCall_enumerate_1 _) (fun obj => F.args_object_init_2 obj _) F.entry_enumerate_new (enum_new1 B) ⟨hP, ?_⟩
  show _ ∧ _
  rw [sz]
  exact ⟨⟨_, en, rfl⟩, fin _ en (Heap.get?_push_of_some _ (Heap.get?_push_size _ B.free)) fun b u x => Heap.get?_push_of_some _ (Heap.get?_push_of_some _ x)⟩
/-- the tuple at a, each item in a new pair -/
def IteT (K : PySem.W.Frag) (a : Addr) : It :=
  ⟨fun i H => ∃ (xs : List V) (x : V), SqT K H a xs ∧ xs[i]? = some x, fun i H v H' => ∃ T x, v = .ref T ∧ H T = none ∧ H' = upd H T (.tup [.int (i : Nat), x]) ∧ ∀ xs, SqT K H a xs → xs[i]? = some x, fun i H => ∃ xs : List V, SqT K H a xs ∧ xs.length = i⟩
theorem turn_enumT {P : Program} {w : World} {K : PySem.W.Frag} {elts : List Expr} {kk : Nat} {tpos : Pos} (a e it : Addr) :
    Turn P w K (.Tuple elts kk tpos) (IteT K a) [e, it] e (fun i h => (∃ old, IsEnum h e it ((i : Nat) : Int) old) ∧ h.IsTupleIter it a i ∧ e ≠ it ∧ a ≠ it ∧ a ≠ e) where
  mem := List.mem_cons_self
  obj := fun i h st b hb => by
    obtain ⟨⟨old, he⟩, ⟨o, ho, hc, hd⟩, _⟩ := st
    rcases (show b = e ∨ b = it by simpa using hb) with z | z
    · rw [z]; exact ⟨_, he, fun v q => nomatch q⟩
    · rw [z]; exact ⟨o, ho, fun v q => by rw [hd] at q; cases q⟩
  keep := fun i h h' st k => ⟨⟨_, k e (by simp) _ st.1.choose_spec⟩, st.2.1.at fun o q => k it (by simp) o q, st.2.2⟩
  item := by
    intro X hP hw hK hc i pins s σ H E I hf st hg
    subst hP hw hK
    obtain ⟨⟨old, he⟩, hit, hne, ha, ha2⟩ := st
    obtain ⟨xs, x, hq, hx⟩ := hg
    obtain ⟨its, rv, p, hz⟩ := I.tuple hq
    obtain ⟨u, hu, ru⟩ := rv.get hx
    have hel : e < s.heap.objs.size := Heap.lt_size he
    have hil : it < s.heap.objs.size := let ⟨_, q, _⟩ := hit; Heap.lt_size q
    have hT : s.heap.IsTuple a its.toArray := p
    have hi : i < its.toArray.size := by
      have := (List.getElem?_eq_some_iff.mp hu).1
      simpa using this
    have hd : X.A.in1.handled = none := I.ok.hd hc
    refine wpAny_pyNext_enum_itemD (Draws.tuple hd it a ha its.toArray) he ⟨hit, hT⟩ hi hne (by simp; exact ⟨hne, fun z => ha2 z.symm⟩) fun v h' tk hv ho hst' hTp hsz hk => ?_
    have ev : v = u := by
      have h1 : its.toArray[i]? = some v := hv
      rw [List.getElem?_toArray, hu] at h1
      exact (Option.some.inj h1).symm
    subst ev
    refine ⟨_, rfl, wpAny_letOwnedTupleGo_enum (s := { s with heap := h', toks := tk + 1 }) ho fun h'' he' sb => ?_⟩
    have hT2 : h''.get? s.heap.objs.size = some { cls := .type "tuple", data := .seq #[.int i tk, v] } := (sb.2 _ (Nat.ne_of_gt hel)).trans hTp
    have new : ObjOk X.prog X.w (upd H s.heap.objs.size (.tup [.int (i : Nat), x])) h'' s.heap.objs.size (.tup [.int (i : Nat), x]) :=
      ⟨by show 2 ≤ sizeLine; decide, [.int i tk, v], .cons ⟨_, rfl⟩ (.cons ru .nil), ⟨_, hT2, rfl, _, rfl⟩⟩
    have I1 : Inv X pins σ (upd H s.heap.objs.size (.tup [.int (i : Nat), x])) { s with heap := h'', toks := tk + 1 } :=
      I.turnedNew (ch := [e, it]) (fun b ob hb q => (sb.2 b (fun z => hb (by simp [z]))).trans (hk b ob (fun z => hb (by simp [z])) (fun z => hb (by simp [z])) q)) hf (Nat.le_refl _) new
    refine ⟨.ref s.heap.objs.size, _, I1, rfl, ⟨_, x, rfl, I.hok.fresh (Nat.le_refl _), rfl, fun ys hy => by rw [I.tuple_inj hy hq]; exact hx⟩, ⟨⟨v, ?_⟩, hst'.1.at fun o q => (sb.2 it (Ne.symm hne)).trans q, hne, ha, ha2⟩, fun b hb => ?_⟩
    · have e1 : ((i + 1 : Nat) : Int) = (i : Int) + 1 := by omega
      rw [e1]; exact he'
    · have hb' : b < s.heap.objs.size := by
        rcases (show b = e ∨ b = it by simpa using hb) with z | z
        · rw [z]; exact hel
        · rw [z]; exact hil
      rw [upd_ne (Nat.ne_of_lt hb')]
      exact (hf b hb).1
  done := by
    intro X hP hw hK hc i pins s σ H E I hf st hg
    subst hP hw hK
    obtain ⟨⟨old, he⟩, hit, hne, ha, ha2⟩ := st
    obtain ⟨xs, hq, hx⟩ := hg
    obtain ⟨its, rv, p, hz⟩ := I.tuple hq
    obtain ⟨f0, f1, f2, f3, f4, f5⟩ := hf it (by simp)
    have hT : s.heap.IsTuple a its.toArray := p
    have hl : its.toArray.size = i := by have := rv.length; rw [List.size_toArray]; omega
    have hd : X.A.in1.handled = none := I.ok.hd hc
    refine wpAny_pyNext_enum_endD (Draws.tuple hd it a ha its.toArray) he (by rw [hl]; exact ⟨hit, hT⟩) fun h' eb => ?_
    exact ⟨rfl, I.turned (t' := s.toks) (fun b o hb q => eb b o hb q) f0 f1 f3 f4 f5⟩
  self := fun A i s Q E st h => let ⟨⟨_, he⟩, _⟩ := st; wpAny_pyIter_enum he h
def iEnumA (K : PySem.W.Frag) (ta : TE) : TI := fun σ H R => ta σ H fun x H1 => ∃ a xs, x = .ref a ∧ ((SqL K H1 a xs ∧ R (Ite K a) H1) ∨ (SqT K H1 a xs ∧ R (IteT K a) H1))
theorem pi_enumA {X : Cx} {e : Expr} {ta : TE} {p pos tpos : Pos} {elts : List Expr} {kk : Nat} (hg : Gl X "enumerate") (hm : X.mg "enumerate" = none) (ha : PE X e ta) (hs : starEach [e] X.env = (false, eval e X.env) :: starEach [] X.env := by rfl) :
    PI X (.Tuple elts kk tpos) (.Call (.Name "enumerate" p) [e] [] pos) (iEnumA X.K ta) := by
  refine ⟨fun pins s σ H R I h => ?_⟩
  refine Call_ (ld_blt I hg hm boot_enumerate (PyProof.Rows.callWith_type1 (thn ((pa_cons ha pa_nil hs).run pos pins s σ H (fun vs H1 => match vs with | [x] => ∃ a xs, x = .ref a ∧ ((SqL X.K H1 a xs ∧ R (Ite X.K a) H1) ∨ (SqT X.K H1 a xs ∧ R (IteT X.K a) H1)) | _ => False) I h) fun us s1 ⟨vs, H1, I1, r1, q1⟩ => ?_) hs rfl))
  · match vs, q1, r1 with
    | [x], q1, r1 =>
    obtain ⟨a, xs, ea, q⟩ := q1
    subst ea
    obtain ⟨u, rfl, ru⟩ := r1.one
    cases ru
    have fp : ∀ {h' : Heap}, ∀ b ∈ [s1.heap.objs.size + 1, s1.heap.objs.size], FpOk X pins H1 b := fun {h'} b hb => by
      have hle : s1.heap.objs.size ≤ b := by
        rcases (show b = s1.heap.objs.size + 1 ∨ b = s1.heap.objs.size by simpa using hb) with z | z
        · rw [z]; exact Nat.le_add_right _ _
        · rw [z]; exact Nat.le_refl _
      exact I1.fpOk hle (I1.hok.fresh hle)
    rcases q with ⟨hq, q⟩ | ⟨hq, q⟩
    · obtain ⟨its, rv, p', hz⟩ := I1.list hq
      refine enum_call (begins_list a its.toArray) p'.isList fun h' he hit hk => wpAny_pyIter_enum he ?_
      exact ⟨s1.heap.objs.size + 1, [s1.heap.objs.size + 1, s1.heap.objs.size], _, _, H1, rfl, I1.kept (t' := s1.toks) hk, turn_enum a (s1.heap.objs.size + 1) s1.heap.objs.size, ⟨⟨.none, he⟩, ⟨_, hit, rfl, rfl⟩, Nat.succ_ne_self _⟩, fp (h' := h'), q⟩
    · obtain ⟨its, rv, p', hz⟩ := I1.tuple hq
      have hT : s1.heap.IsTuple a its.toArray := p'
      have hlt : a < s1.heap.objs.size := let ⟨_, q, _⟩ := hT; Heap.lt_size q
      refine enum_call (begins_tuple a its.toArray) hT fun h' he hit hk => wpAny_pyIter_enum he ?_
      exact ⟨s1.heap.objs.size + 1, [s1.heap.objs.size + 1, s1.heap.objs.size], _, _, H1, rfl, I1.kept (t' := s1.toks) hk, turn_enumT a (s1.heap.objs.size + 1) s1.heap.objs.size, ⟨⟨.none, he⟩, ⟨_, hit, rfl, rfl⟩, Nat.succ_ne_self _, Nat.ne_of_lt hlt, Nat.ne_of_lt (Nat.lt_succ_of_lt hlt)⟩, fp (h' := h'), q⟩
section
variable {X : Cx} {Z : Env1} {e : Expr} {ma : Ex} {pos : Pos}
def enmL : Nat → List D → List D
  | _, [] => []
  | n, d :: r => .tup [.int (n : Nat), d] :: enmL (n + 1) r
theorem enmL_len : ∀ (n : Nat) (l : List D), (enmL n l).length = l.length
  | _, [] => rfl
  | n, d :: r => by rw [enmL, List.length_cons, List.length_cons, enmL_len]
theorem enmL_get : ∀ (n : Nat) (l : List D) (i : Nat), (enmL n l)[i]? = (l[i]?).map fun d => D.tup [.int ((n + i : Nat) : Int), d]
  | _, [], i => by simp [enmL]
  | n, d :: r, 0 => by simp [enmL]
  | n, d :: r, i + 1 => by
    simp only [enmL, List.getElem?_cons_succ]
    rw [enmL_get]
    have : n + 1 + i = n + (i + 1) := by omega
    rw [this]
def mEnum (m : Ex) : Ag := fun σ S => (m σ S).bind fun d S1 => match d with
  | .lst l => .ok (enmL 0 l) S1
  | .tup l => .ok (enmL 0 l) S1
  | .scr l => .ok (enmL 0 (l.map D.int)) S1
  | _ => .stuck
theorem Wo.Le.laid {w : Wo} {T : Addr} {o : HO} (h : w.H T = none) : w.Le { w with H := upd w.H T o } :=
  ⟨rfl, rfl, fun a u _ e f => ⟨by show upd w.H T o a = _; rw [upd_ne (ne_of_none e h)]; exact e, f⟩, fun _ _ => rfl, Nat.le_refl _⟩
/-- the pair of a turn -/
theorem rd_pair {w : Wo} {T : Addr} {i : Nat} {d : D} {v : V} (h : w.H T = none) (hf : ∀ a, w.F a → ∃ o, w.H a = some o) (rd : RD w d v) : RD { w with H := upd w.H T (.tup [.int (i : Nat), v]) } (.tup [.int (i : Nat), d]) (.ref T) := by
  refine .tup (.inl upd_same) (fun z => ?_) (by show 2 ≤ sizeLine; decide) (.cons (.int _) (.cons (rd.mono (Wo.Le.laid h)) .nil))
  obtain ⟨o, e⟩ := hf T z
  rw [h] at e; cases e
theorem it_enumL {w : Wo} {ds : List D} {a : Addr} (hl : ds.length ≤ sizeLine) (hv : ∀ w2, w.Le w2 → ∃ vs, SqL w.K.K w2.H a vs ∧ RDs w2 ds vs) : ItD w (enmL 0 ds) (Ite w.K.K a) where
  go := fun i w2 hi le => by
    obtain ⟨vs, h, r⟩ := hv w2 le
    rw [enmL_len] at hi
    obtain ⟨v, ev, _⟩ := r.get (List.getElem?_eq_getElem hi)
    exact ⟨vs, v, h, ev⟩
  stop := fun w2 le => by
    obtain ⟨vs, h, r⟩ := hv w2 le
    exact ⟨vs, h, by rw [enmL_len, r.length]; exact Nat.le_refl _⟩
  yld := fun i d w2 x H3 hd le hf hy => by
    obtain ⟨T, u, rfl, hT, rfl, hx⟩ := hy
    obtain ⟨vs, h, r⟩ := hv w2 le
    rw [enmL_get] at hd
    cases q : ds[i]? with
    | none => rw [q] at hd; cases hd
    | some d0 =>
      rw [q] at hd
      cases hd
      obtain ⟨v, ev, rd⟩ := r.get q
      have e2 := hx vs h
      rw [ev] at e2
      cases e2
      refine ⟨.inr ⟨T, _, hT, rfl⟩, ?_⟩
      have := rd_pair (i := i) hT hf rd
      rw [show 0 + i = i by omega]
      exact this
  len := by rw [enmL_len]; exact hl
theorem it_enumT {w : Wo} {ds : List D} {a : Addr} (hl : ds.length ≤ sizeLine) (hv : ∀ w2, w.Le w2 → ∃ vs, SqT w.K.K w2.H a vs ∧ RDs w2 ds vs) : ItD w (enmL 0 ds) (IteT w.K.K a) where
  go := fun i w2 hi le => by
    obtain ⟨vs, h, r⟩ := hv w2 le
    rw [enmL_len] at hi
    obtain ⟨v, ev, _⟩ := r.get (List.getElem?_eq_getElem hi)
    exact ⟨vs, v, h, ev⟩
  stop := fun w2 le => by
    obtain ⟨vs, h, r⟩ := hv w2 le
    exact ⟨vs, h, by rw [enmL_len, r.length]⟩
  yld := fun i d w2 x H3 hd le hf hy => by
    obtain ⟨T, u, rfl, hT, rfl, hx⟩ := hy
    obtain ⟨vs, h, r⟩ := hv w2 le
    rw [enmL_get] at hd
    cases q : ds[i]? with
    | none => rw [q] at hd; cases hd
    | some d0 =>
      rw [q] at hd
      cases hd
      obtain ⟨v, ev, rd⟩ := r.get q
      have e2 := hx vs h
      rw [ev] at e2
      cases e2
      refine ⟨.inr ⟨T, _, hT, rfl⟩, ?_⟩
      have := rd_pair (i := i) hT hf rd
      rw [show 0 + i = i by omega]
      exact this
  len := by rw [enmL_len]; exact hl
theorem di_enum {p tpos : Pos} {elts : List Expr} {kk : Nat} (hg : Gl X "enumerate") (hm : X.mg "enumerate" = none) (h : DE X Z e ma) (hs : starEach [e] X.env = (false, eval e X.env) :: starEach [] X.env := by rfl) (hK : Z.K.K = X.K := by rfl) :
    DI X Z (.Tuple elts kk tpos) (.Call (.Name "enumerate" p) [e] [] pos) (mEnum ma) := PI.imp (pi_enumA hg hm h hs) fun σV H R => by
  rintro ⟨g, j, σ, S, R0, h⟩
  refine ⟨g, j, σ, S, R0, OutR.bind (fun d S1 j1 v H1 R1 s1 rd h1 => ?_) h⟩
  cases d with
  | lst l =>
    obtain ⟨p, vs, rfl, hs, r, _⟩ := rd.of_lst
    refine ⟨p, vs, rfl, .inl ⟨.of hs, ?_⟩⟩
    rw [← hK]
    refine h1 j1 _ H1 R1 Stp.refl (it_enumL rd.len_lst fun w2 le => ?_)
    obtain ⟨p', vs', e', h', r', _⟩ := (rd.mono le).of_lst
    cases e'
    exact ⟨vs', .of h', r'⟩
  | tup l =>
    obtain ⟨p, vs, rfl, hs, r⟩ := rd.of_tup
    refine ⟨p, vs, rfl, .inr ⟨by rw [← hK]; exact hs, ?_⟩⟩
    rw [← hK]
    refine h1 j1 _ H1 R1 Stp.refl (it_enumT rd.len_tup fun w2 le => ?_)
    obtain ⟨p', vs', e', h', r'⟩ := (rd.mono le).of_tup
    cases e'
    rw [le.k] at h'
    exact ⟨vs', h', r'⟩
  | scr l =>
    obtain ⟨p, rfl, hs⟩ := rd.of_scr
    refine ⟨p, _, rfl, .inl ⟨by rw [← hK]; exact hs, ?_⟩⟩
    rw [← hK]
    refine h1 j1 _ H1 R1 Stp.refl (it_enumL (by rw [List.length_map]; exact rd.len_scr) fun w2 le => ?_)
    obtain ⟨p', e', h'⟩ := (rd.mono le).of_scr
    cases e'
    rw [le.k] at h'
    refine ⟨_, h', ?_⟩
    clear h' le h1 hs rd h
    induction l with
    | nil => exact .nil
    | cons n r ih => exact .cons (.int n) ih
  | _ => exact h1.elim
end
end Qi
namespace Qi
open PySem PySem.Spec L2
variable {X : Cx} {Z : Env1} {a b e : Expr} {ma mb : Ex} {pos : Pos}
def Gd.holds (g : Gd) (as : List Addr) : Gd := { g with B := fun a => g.B a ∨ a ∈ as }
inductive RM (w : Wo) : List Bool → List D → List V → List Addr → Prop
  | nil : RM w [] [] [] []
  | val {d : D} {v : V} {ks : List Bool} {ds : List D} {vs : List V} {as : List Addr} : RD w d v → RM w ks ds vs as → RM w (false :: ks) (d :: ds) (v :: vs) as
  | new {a : Addr} {us : List V} {es : List D} {ks : List Bool} {ds : List D} {vs : List V} {as : List Addr} : w.H a = some (.lst us) → es.length ≤ sizeLine → RDs w es us → a ∉ as → RM w ks ds vs as → RM w (true :: ks) (.lst es :: ds) (.ref a :: vs) (a :: as)
theorem RM.mono {w w' : Wo} (le : w.Le w') {ks : List Bool} {ds : List D} {vs : List V} {as : List Addr} (h : RM w ks ds vs as) (k : ∀ a o, a ∈ as → NT o → w.H a = some o → w'.H a = some o) : RM w' ks ds vs as := by
  induction h with
  | nil => exact .nil
  | val r h ih => exact .val (r.mono le) (ih k)
  | new e l r n h ih => exact .new (k _ _ List.mem_cons_self nt_lst e) l (r.mono le) n (ih fun a o ha t => k a o (List.mem_cons_of_mem _ ha) t)
section
variable (Z : Env1) (g : Gd) (j : Nat → Addr) (σ : Sl) (S : Sto) (σV : L2.St) (H : Hp)
def OutM (ks : List Bool) (Q : List V → Hp → Prop) : Res (List D) → Prop
  | .ok ds S' => ∀ j' vs as H', RelZ Z (g.holds as) j' σ S' σV H' → Stp j S.length H j' S'.length H' → RM (wz Z (g.holds as) j' σ S' σV H') ks ds vs as → (∀ a ∈ as, H a = none) → Q vs H'
  | .exc x S' => OutX Z g j σ S σV H x S'
  | .stuck => False
end
def lM (Z : Env1) (ks : List Bool) (m : Ag) : TA := fun σV H Q => ∃ g j σ S, RelZ Z g j σ S σV H ∧ OutM Z g j σ S σV H ks Q (m σ S)
abbrev DM (X : Cx) (Z : Env1) (es : List Expr) (ks : List Bool) (m : Ag) : Prop := PA X es (lM Z ks m)
section
variable {g : Gd} {j j' : Nat → Addr} {σ : Sl} {S S' : Sto} {σV : L2.St} {H H' : Hp} {as : List Addr}
theorem OutM.step {ks : List Bool} {Q : List V → Hp → Prop} (s : Stp j S.length H j' S'.length H') : ∀ {r : Res (List D)}, OutM Z g j σ S σV H ks Q r → OutM Z g j' σ S' σV H' ks Q r
  | .ok ds S2, h => fun j2 vs as H2 R st rm hn => h j2 vs as H2 R (s.trans st) rm fun a ha => s.back a (hn a ha)
  | .exc x S2, h => OutX.step s h
  | .stuck, h => h
/-- from a value before to the world in which new ones are held -/
theorem le_holds (s1 : Stp j S.length H j' S'.length H') (hn : ∀ a ∈ as, H a = none) : (wz Z g j σ S σV H).Le (wz Z (g.holds as) j' σ S' σV H') :=
  ⟨rfl, rfl, fun b o t e f => ⟨(s1.wle (K := Z.K) (lin := Z.lin) (B := g.B) (σ := σ) (σV := σV)).keep b o t e f |>.1, fun z => by
      rcases z with (z | z) | z | z
      · exact f (.inl z)
      · have e' : H b = some o := e
        rw [hn b z] at e'; cases e'
      · exact ((s1.wle (K := Z.K) (lin := Z.lin) (B := g.B) (σ := σ) (σV := σV)).keep b o t e f).2 (.inr (.inl z))
      · exact f (.inr (.inr z))⟩, s1.ag, s1.le⟩
end
theorem dm_nil : DM X Z [] [] aN := PA.imp pa_nil fun σV H Q => by
  rintro ⟨g, j, σ, S, R, h⟩
  refine h j [] [] H (R.free (B' := (g.holds []).B) fun a z => ?_) Stp.refl .nil (fun a ha => nomatch ha)
  rcases z with z | z
  · exact z
  · cases z
theorem dm_val {es : List Expr} {ks : List Bool} {r : Ag} (ha : DE X Z e ma) (hr : DM X Z es ks r) (hs : starEach (e :: es) X.env = (false, eval e X.env) :: starEach es X.env := by rfl) : DM X Z (e :: es) (false :: ks) (aC ma r) := PA.imp (pa_cons ha hr hs) fun σV H Q => by
  rintro ⟨g, j, σ, S, R, h⟩
  refine ⟨g, j, σ, S, R, ?_⟩
  unfold aC at h
  generalize ma σ S = x at h
  cases x with
  | ok d S1 =>
    intro j1 v H1 R1 s1 rd
    refine ⟨g, j1, σ, S1, R1, ?_⟩
    have h1 : OutM Z g j1 σ S1 σV H1 (false :: ks) Q ((r σ S1).bind fun xs S2 => .ok (d :: xs) S2) := OutM.step s1 h
    generalize r σ S1 = y at h1
    cases y with
    | ok ds S2 =>
      intro j2 vs as H2 R2 s2 rm hn
      exact h1 j2 (v :: vs) as H2 R2 s2 (.val (rd.mono (le_holds s2 hn)) rm) hn
    | exc x S2 => exact h1
    | stuck => exact h1
  | exc x S1 => exact h
  | stuck => exact h
def aF (a : Ex) (r : Ag) : Ag := fun σ S => (a σ S).bind fun x S1 => match x with
  | .lst l => (r σ S1).bind fun xs S2 => .ok (.lst l :: xs) S2
  | _ => .stuck
theorem dm_new {es : List Expr} {ks : List Bool} {r : Ag} (ha : DF X Z e ma) (hr : DM X Z es ks r) (hs : starEach (e :: es) X.env = (false, eval e X.env) :: starEach es X.env := by rfl) : DM X Z (e :: es) (true :: ks) (aF ma r) := PA.imp (pa_cons ha hr hs) fun σV H Q => by
  rintro ⟨g, j, σ, S, R, h⟩
  refine ⟨g, j, σ, S, R, ?_⟩
  unfold aF at h
  generalize ma σ S = x at h
  cases x with
  | ok d S1 =>
    cases d with
    | lst es' =>
      intro j1 p us H1 hp R1 s1 hl rd hn1
      refine ⟨g.hold p, j1, σ, S1, R1, ?_⟩
      have h0 : OutM Z g j σ S σV H (true :: ks) Q ((r σ S1).bind fun xs S2 => .ok (.lst es' :: xs) S2) := h
      generalize r σ S1 = y at h0
      cases y with
      | ok ds S2 =>
        intro j2 vs as H2 R2 s2 rm hn
        have hpa : p ∉ as := fun z => by
          have := hn p z
          rw [hp] at this; cases this
        have sub : ∀ x, (g.holds (p :: as)).B x → ((g.hold p).holds as).B x := fun x z => by
          rcases z with z | z
          · exact .inl (.inl z)
          · rcases List.mem_cons.mp z with z | z
            · exact .inl (.inr z)
            · exact .inr z
        have R3 : RelZ Z (g.holds (p :: as)) j2 σ S2 σV H2 := R2.free (B' := (g.holds (p :: as)).B) sub
        have hp2 : H2 p = some (.lst us) := s2.keep p _ nt_lst hp fun n hn' z => R1.oc n hn' (.inr z)
        refine h0 j2 (.ref p :: vs) (p :: as) H2 R3 (s1.trans s2) (.new hp2 hl ((rd.mono (le_holds s2 hn)).mono (le_free sub)) hpa (rm.mono (le_free sub) fun _ _ _ _ z => z)) fun x hx => ?_
        rcases List.mem_cons.mp hx with z | z
        · rw [z]; exact hn1
        · exact s1.back x (hn x z)
      | exc x S2 =>
        intro j2 cls dd H2 R2 s2 rx
        exact h0 j2 cls dd H2 (R2.free (B' := g.B) fun a z => .inl z) (s1.trans s2) (rx.mono (le_free fun a z => .inl z))
      | stuck => exact h0
    | _ => exact h
  | exc x S1 => exact h
  | stuck => exact h
/-- the names are set: a linear one takes its list -/
theorem setM_rel {g : Gd} {j : Nat → Addr} {S : Sto} {H : Hp} : ∀ {is : List Nat} {ks : List Bool} {ds : List D} {vs : List V} {as : List Addr} {σ σ' : Sl} {σV : L2.St}, is.map Z.lin = ks → RelZ Z (g.holds as) j σ S σV H → RM (wz Z (g.holds as) j σ S σV H) ks ds vs as → (∀ a ∈ as, g.H0 a = none ∧ ¬ g.B a) → setsD is ds σ = some σ' →
    RelZ Z g j σ' S (setsV is vs σV) H ∧ (wz Z (g.holds as) j σ S σV H).Le (wz Z g j σ' S (setsV is vs σV) H) ∧ vs.length = is.length
  | [], _, _, _, _, σ, σ', σV, hk, R, .nil, _, h => by
    cases h
    exact ⟨R.free (B' := g.B) fun a z => .inl z, le_free fun a z => .inl z, rfl⟩
  | i :: is, _, d :: ds, v :: vs, as, σ, σ', σV, hk, R, .val rd rm, hn, h => by
    rw [List.map_cons, List.cons.injEq] at hk
    obtain ⟨R', le', e⟩ := setM_rel hk.2 (R.set hk.1 rd) (rm.mono (le_set hk.1) fun _ _ _ _ z => z) hn h
    exact ⟨R', (le_set hk.1).trans le', by rw [List.length_cons, List.length_cons, e]⟩
  | i :: is, _, _ :: ds, _ :: vs, p :: as, σ, σ', σV, hk, R, .new hp hl rd hpa rm, hn, h => by
    rw [List.map_cons, List.cons.injEq] at hk
    have sub : ∀ x, ((g.holds as).hold p).B x → (g.holds (p :: as)).B x := fun x z => by
      rcases z with (z | z) | z
      · exact .inl z
      · exact .inr (List.mem_cons_of_mem _ z)
      · exact .inr (by rw [z]; exact List.mem_cons_self)
    have R1 : RelZ Z ((g.holds as).hold p) j σ S σV H := R.free (B' := ((g.holds as).hold p).B) sub
    have hb : ¬ (g.holds as).B p := fun z => by
      rcases z with z | z
      · exact (hn p List.mem_cons_self).2 z
      · exact hpa z
    have R2 := R1.setL (i := i) hk.1 hp hl (rd.mono (le_free sub)) (hn p List.mem_cons_self).1 hb
    obtain ⟨R', le', e⟩ := setM_rel hk.2 R2 ((rm.mono (le_free sub) fun _ _ _ _ z => z).mono le_setL fun _ _ _ _ z => z) (fun a ha => hn a (List.mem_cons_of_mem _ ha)) h
    exact ⟨R', ((le_free sub).trans le_setL).trans le', by rw [List.length_cons, List.length_cons, e]⟩
  | [], _, _, _, _, _, _, _, hk, _, .val .., _, _ => by cases hk
  | [], _, _, _, _, _, _, _, hk, _, .new .., _, _ => by cases hk
  | _ :: _, _, _, _, _, _, _, _, hk, _, .nil, _, _ => by cases hk
def cPar (is : List Nat) (ms : Ag) : Co := fun σ S => (ms σ S).bind fun ds S1 => match setsD is ds σ with
  | some σ' => .ok (.next σ') S1
  | none => .stuck
/-- t = .. = es, by the rule of HandS that fits -/
theorem ds_par {st : Stmt} {is : List Nat} {ks : List Bool} {ms : Ag} (hp : PS X st (fun D σ H => lM Z ks ms σ H fun vs H1 => vs.length = is.length ∧ D.nx (setsV is vs σ) H1)) (hk : is.map Z.lin = ks) : DS X Z st (cPar is ms) := PS.imp hp fun D σV H => by
  rintro ⟨g, j, σ, S, R, h⟩
  refine ⟨g, j, σ, S, R, ?_⟩
  unfold cPar at h
  generalize ms σ S = r at h
  cases r with
  | ok ds S1 =>
    intro j1 vs as H1 R1 s1 rm hn
    dsimp only [Res.bind] at h
    cases q : setsD is ds σ with
    | none => rw [q] at h; exact h.elim
    | some σ' =>
      rw [q] at h
      obtain ⟨R', le', e⟩ := setM_rel hk R1 rm (fun a ha => ⟨R.fresh (hn a ha), notB R (hn a ha)⟩) q
      exact ⟨e, h j1 _ H1 R' ((le_holds s1 hn).trans le')⟩
  | exc x S1 => exact fun j' cls dd H' R' _ rx => h j' cls dd σV H' R'.drop (rx.mono le_drop)
  | stuck => exact h
theorem ds_par2 {i k : Nat} {ms : Ag} {ks : List Bool} {st : Stmt} (hp : PS X st (tPar i k (lM Z ks ms))) (hk : [i, k].map Z.lin = ks) : DS X Z st (cPar [i, k] ms) := ds_par (PS.imp hp fun D σV H h => by
  obtain ⟨g, j, σ, S, R, h⟩ := h
  refine ⟨g, j, σ, S, R, ?_⟩
  generalize ms σ S = r at h
  cases r with
  | ok ds S1 =>
    intro j1 vs as H1 R1 s1 rm hn
    obtain ⟨e, q⟩ := h j1 vs as H1 R1 s1 rm hn
    match vs, e, q with
    | [v, w], _, q => exact ⟨v, w, rfl, q⟩
  | exc x S1 => exact h
  | stuck => exact h) hk
theorem ds_par3 {i k l : Nat} {ms : Ag} {ks : List Bool} {st : Stmt} (hp : PS X st (tPar3 i k l (lM Z ks ms))) (hk : [i, k, l].map Z.lin = ks) : DS X Z st (cPar [i, k, l] ms) := ds_par (PS.imp hp fun D σV H h => by
  obtain ⟨g, j, σ, S, R, h⟩ := h
  refine ⟨g, j, σ, S, R, ?_⟩
  generalize ms σ S = r at h
  cases r with
  | ok ds S1 =>
    intro j1 vs as H1 R1 s1 rm hn
    obtain ⟨e, q⟩ := h j1 vs as H1 R1 s1 rm hn
    match vs, e, q with
    | [u, v, w], _, q => exact ⟨u, v, w, rfl, q⟩
  | exc x S1 => exact h
  | stuck => exact h) hk
end Qi
namespace Qi
open PySem PySem.Spec L2 PyProof.Rows
section
variable {P : Program} {w : World} {A : Around} {E : Value → Shared → Prop} {s : Shared}
abbrev setO0 (w : World) : Obj := { cls := .type "set", dict := none, data := .set #[] 0 (.fresh 0 0 (!w.params.followText "set-order")) }
theorem set_of_list {l : Addr} {items : Array Value} (ns : List Int) {Q : Value → Shared → Prop} (hh : A.handled = none) (hl : s.heap.IsList l items) (hit : IntsAre items.toList ns) (hb : ns.length + 1 < scanBound)
    (fin : ∀ (h' : Heap) (tk c : Nat), SetR w h' s.heap.objs.size (fun j => decide (j ∈ ns)) c → c ≤ ns.length → (∀ b o, s.heap.get? b = some o → h'.get? b = some o) → Q (.ref s.heap.objs.size) { s with heap := h', toks := tk }) :
    wpAny (model P w) A (call (.type "set") [.ref l]) Q E s := by
  have sz : items.size = ns.length := by have q := IntsAre.length hit; rwa [Array.length_toList] at q
  obtain ⟨cc, tl, hmro⟩ := F.called_set.mro
  have hmade := F.called_set.made; have hsub := F.called_set.sub
  refine wpAny_call (codeAny_of_tree ?_)
  show wpAny _ _ (callAny (.type "set") _) _ _ _
  refine wpAny_pure ⟨Code.quiet_builtin _ (by decide +kernel), codeAny_builtin F.entry_type_call ?_⟩
  rw [Around.under_plain (weight_type_call_type "set" [.ref l] []) rfl]
  have h1 := F.called_set.notType; have h2 := F.called_set.canCreate; have hct := F.typeCall_set_1 (.ref l)
  repeat (any_goals (first | assumption | wp_step))
  refine codeAny_mono (code_set_led1 (.ref l) (E := E) (Q₁ := fun obj s₁ => obj = .ref s.heap.objs.size ∧ s₁ = { s with heap := s.heap.push (setO0 w) }) ⟨rfl, rfl⟩) fun r s₁ hr => ?_
  cases r with
  | error e => exact hr
  | ok fl =>
    cases fl with
    | ret obj =>
      obtain ⟨rfl, rfl⟩ := hr
      have hS : (s.heap.push (setO0 w)).get? s.heap.objs.size = some (setO0 w) := Heap.get?_push_size _ rfl
      have hT : Shared.TypeIs { s with heap := s.heap.push (setO0 w) } (.ref s.heap.objs.size) "set" := ⟨_, hS, rfl⟩
      have hli := F.called_set.init.lookup; have hbi := F.called_set.init.bind (.ref s.heap.objs.size)
      repeat (any_goals (first | assumption | wp_step))
      refine codeAny_mono (codeAny_call_builtin (R := wants (fun r s₂ => r = .none ∧ ∃ h' tk c, s₂ = { s with heap := h', toks := tk } ∧ SetR w h' s.heap.objs.size (fun j => decide (j ∈ ns)) c ∧ c ≤ ns.length ∧
          (∀ b o, s.heap.get? b = some o → h'.get? b = some o)) E) F.called_set.init.plain F.entry_set_init (check_set_init_1 hT ?_)) fun r₂ s₂ hr₂ => ?_
      · obtain ⟨⟨ocls, odict, odata, oslots⟩, hol, hcl, nl, hdl⟩ := hl
        simp only at hcl hdl
        subst hcl hdl
        have hol' : (s.heap.push (setO0 w)).get? l = some { cls := .type "list", dict := odict, data := .seq items nl, slots := oslots } := Heap.get?_push_of_some _ hol
        have hsls := F.sub_list_set; have hslf := F.sub_list_frozenset
        have hne : (Value.type "list" == Value.type "dict") = false := by decide
        have hl1 : (s.heap.push (setO0 w)).IsList l items := ⟨_, hol', rfl, nl, rfl⟩
        unfold Builtin.«set.__init__» noKeywords Builtin.Frozenset.updateFrom
        generalize hPI : pyIter = PI
        wp_walk
        subst hPI
        refine wpAny_pyIter_list hl1 ?_
        refine wpAny_bind (wpAny_runValue ?_)
        have hlS : l < s.heap.objs.size := Heap.lt_size hol
        have hh3 : A.in1.in1.in1.handled = none := by simp [hh]
        have hneI : l ≠ (s.heap.push (setO0 w)).objs.size := by rw [Heap.size_push]; exact Nat.ne_of_lt (Nat.lt_succ_of_lt hlS)
        have hSf : s.heap.objs.size ∉ [(s.heap.push (setO0 w)).objs.size, l] := by
          rw [Heap.size_push]; simp only [List.mem_cons, List.mem_singleton, List.not_mem_nil, or_false, not_or]
          exact ⟨Nat.ne_of_lt (Nat.lt_succ_self _), Nat.ne_of_gt hlS⟩
        have hval : ∀ (i : Nat) (v : Value), items[i]? = some v → ∃ k t, ns[i]? = some k ∧ v = .int k t := fun i v hv => by
          have hi : i < ns.length := by rw [← sz]; exact (Array.getElem?_eq_some_iff.mp hv).1
          obtain ⟨t, e⟩ := PyProof.Rows.IntsAre.int_at hit i v (by rw [Array.getElem?_toList]; exact hv)
          refine ⟨ns[i], t, List.getElem?_eq_getElem hi, ?_⟩
          rw [e, List.getD_eq_getElem?_getD, List.getElem?_eq_getElem hi] <;> rfl
        refine set_update_ints ((Walks.list hh3 _ l hneI items).toS) s.heap.objs.size hSf ns sz hb hval (items.size - 0) 0 _ (by omega) (Nat.zero_le _)
          ⟨⟨_, Heap.get?_push_size _ rfl, rfl, rfl⟩, (hl1.push _)⟩ ⟨0, Nat.le_refl 0, setR_new_at (Heap.get?_push_of_some _ hS)⟩ ?_
        rintro ⟨h', g2, d', tk', os'⟩ c' hm hc' hS'
        obtain rfl : g2 = s.gens := hm.gens
        obtain rfl : d' = s.drawn := hm.drawn
        obtain rfl : os' = s.os := hm.os
        show wpAny _ _ _ _ _ _
        refine wpAny_pure ?_
        show wpAny _ _ (ret Value.none) _ _ _
        rw [sz] at hc'
        refine wpAny_pure ⟨rfl, h', tk', c', rfl, hS', hc', fun b o e => ?_⟩
        have hb0 : b < s.heap.objs.size := Heap.lt_size e
        have hb2 : b ≠ (s.heap.push (setO0 w)).objs.size := by rw [Heap.size_push]; exact Nat.ne_of_lt (Nat.lt_succ_of_lt hb0)
        exact hm.heap b o (by simp only [List.mem_cons, List.mem_singleton, List.not_mem_nil, or_false, not_or]; exact ⟨Nat.ne_of_lt hb0, hb2⟩) (Heap.get?_push_of_some _ (Heap.get?_push_of_some _ e))
      · cases r₂ with
        | error e => exact hr₂
        | ok fl₂ =>
          cases fl₂ with
          | ret r =>
            obtain ⟨rfl, h', tk, c', rfl, hS', hc', hk'⟩ := hr₂
            repeat (any_goals (first | assumption | wp_step))
            exact fin _ _ _ hS' hc' hk'
          | _ => exact hr₂.elim
    | _ => exact hr.elim
end
end Qi
namespace Qi
open PySem PySem.Spec L2 PyProof.Rows
def insU (x : Int) : List Int → List Int
  | [] => [x]
  | y :: r => if x < y then x :: y :: r else if x = y then y :: r else y :: insU x r
def srtU : List Int → List Int
  | [] => []
  | x :: r => insU x (srtU r)
theorem insU_mem (x k : Int) : ∀ l, k ∈ insU x l ↔ k = x ∨ k ∈ l
  | [] => by simp [insU]
  | y :: r => by
    unfold insU
    split
    · simp
    · split
      · rename_i h; subst h; simp
      · simp only [List.mem_cons, insU_mem x k r]
        constructor
        · rintro (h | h | h)
          · exact .inr (.inl h)
          · exact .inl h
          · exact .inr (.inr h)
        · rintro (h | h | h)
          · exact .inr (.inl h)
          · exact .inl h
          · exact .inr (.inr h)
theorem srtU_mem (k : Int) : ∀ l, k ∈ srtU l ↔ k ∈ l
  | [] => by simp [srtU]
  | x :: r => by rw [srtU, insU_mem, srtU_mem k r, List.mem_cons]
theorem insU_lt (x : Int) : ∀ l, l.Pairwise (· < ·) → (insU x l).Pairwise (· < ·)
  | [], _ => by simp [insU]
  | y :: r, h => by
    have h1 := (List.pairwise_cons.mp h)
    unfold insU
    split
    · rename_i q
      refine List.pairwise_cons.mpr ⟨fun z hz => ?_, h⟩
      rcases List.mem_cons.mp hz with e | e
      · rw [e]; exact q
      · exact Int.lt_trans q (h1.1 z e)
    · split
      · exact h
      · rename_i q1 q2
        refine List.pairwise_cons.mpr ⟨fun z hz => ?_, insU_lt x r h1.2⟩
        rcases (insU_mem x z r).mp hz with e | e
        · rw [e]; omega
        · exact h1.1 z e
theorem srtU_lt : ∀ l, (srtU l).Pairwise (· < ·)
  | [] => .nil
  | x :: r => insU_lt x _ (srtU_lt r)
theorem lt_uniq : ∀ {l l' : List Int}, l.Pairwise (· < ·) → l'.Pairwise (· < ·) → (∀ k, k ∈ l ↔ k ∈ l') → l = l'
  | [], [], _, _, _ => rfl
  | [], y :: r, _, _, h => absurd ((h y).mpr List.mem_cons_self) (by simp)
  | x :: r, [], _, _, h => absurd ((h x).mp List.mem_cons_self) (by simp)
  | x :: r, y :: t, h1, h2, h => by
    obtain ⟨a1, a2⟩ := List.pairwise_cons.mp h1
    obtain ⟨b1, b2⟩ := List.pairwise_cons.mp h2
    have e : x = y := by
      rcases List.mem_cons.mp ((h x).mp List.mem_cons_self) with e | e
      · exact e
      · rcases List.mem_cons.mp ((h y).mpr List.mem_cons_self) with e' | e'
        · exact e'.symm
        · have := a1 y e'
          have := b1 x e
          omega
    subst e
    rw [lt_uniq a2 b2 fun k => ?_]
    constructor
    · intro hk
      rcases List.mem_cons.mp ((h k).mp (List.mem_cons_of_mem _ hk)) with e | e
      · subst e; exact absurd (a1 k hk) (Int.lt_irrefl _)
      · exact e
    · intro hk
      rcases List.mem_cons.mp ((h k).mpr (List.mem_cons_of_mem _ hk)) with e | e
      · subst e; exact absurd (b1 k hk) (Int.lt_irrefl _)
      · exact e
theorem insU_len (x : Int) : ∀ l, (insU x l).length ≤ l.length + 1
  | [] => by simp [insU]
  | y :: r => by
    have := insU_len x r
    unfold insU
    split
    · simp
    · split
      · simp
      · simp only [List.length_cons]; omega
theorem srtU_len : ∀ l, (srtU l).length ≤ l.length
  | [] => Nat.le_refl _
  | x :: r => by
    have := insU_len x (srtU r)
    have := srtU_len r
    rw [srtU, List.length_cons]; omega
theorem nodup_len : ∀ {l l' : List Int}, l.Nodup → l'.Nodup → (∀ k, k ∈ l ↔ k ∈ l') → l.length = l'.length
  | l, l', h1, h2, h => by
    have p : l.Perm l' := by
      rw [List.perm_ext_iff_of_nodup h1 h2]
      exact h
    exact p.length_eq
section
variable {X : Cx} {Z : Env1} {e : Expr} {ma : Ex} {pos : Pos}
def IntSeq (K : PySem.W.Frag) (H : Hp) (l : Addr) (ns : List Int) : Prop := SqL K H l (ns.map V.int) ∨ SqT K H l (ns.map V.int)
theorem set_run {pins : List (Addr × Obj)} {σ : L2.St} {H : Hp} {s : Shared} {l : Addr} {ns : List Int} {Q : Value → Shared → Prop} {E : Value → Shared → Prop} (hc : X.calm = true) (I : Inv X pins σ H s) (hq : IntSeq X.K H l ns) (h1 : ns.length < 63)
    (fin : ∀ (h' : Heap) (tk c : Nat), SetR X.w h' s.heap.objs.size (fun j => decide (j ∈ ns)) c → c ≤ ns.length → Inv X pins σ H { s with heap := h', toks := tk } → Q (.ref s.heap.objs.size) { s with heap := h', toks := tk }) :
    wpAny (model X.prog X.w) X.A (call (.type "set") [.ref l]) Q E s := by
  have hb : ns.length + 1 < scanBound := by unfold scanBound; omega
  rcases hq with hq | hq
  · obtain ⟨its, r, pl, hz⟩ := I.list hq
    exact set_of_list ns (I.ok.hd hc) pl.isList (by simpa using r.ints) hb fun h' tk c hS hc' hk => fin h' tk c hS hc' (I.kept hk)
  · obtain ⟨its, r, pl, hz⟩ := I.tuple hq
    exact call_set_tupI ns (I.ok.hd hc) (show s.heap.IsTuple l its.toArray from pl) (by simpa using r.ints) hb fun h' tk c hS hc' hk => fin h' tk c hS hc' (I.kept hk)
/-- sorted(set(e)) -/
def tSortSet (K : PySem.W.Frag) (ta : TE) : TE := fun σ H Q => ta σ H fun x H1 => ∃ (l : Addr) (ns : List Int), x = V.ref l ∧ IntSeq K H1 l ns ∧ ns.length < 63 ∧ ∀ p, H1 p = none → Q (.ref p) (upd H1 p (.lst ((srtU ns).map V.int)))
theorem pe_sortSet {ta : TE} {p p2 q : Pos} (hc : X.calm = true) (hg : Gl X "sorted") (hm : X.mg "sorted" = none) (hg2 : Gl X "set") (hm2 : X.mg "set" = none) (ha : PE X e ta) (hbt : bootBuiltins "sorted" = some (.builtin "sorted"))
    (na : starEach [e] X.env = (false, eval e X.env) :: starEach [] X.env := by rfl) : PE X (.Call (.Name "sorted" p) [.Call (.Name "set" p2) [e] [] q] [] pos) (tSortSet X.K ta) := by
  refine ⟨fun pins s σ H Q I h => ?_⟩
  refine Call_ (ld_blt I hg hm hbt (PyProof.Rows.callWith_builtin1 (PyProof.Rows.args_cons ?_ rfl) rfl rfl))
  refine Call_ (ld_blt I hg2 hm2 PyProof.Rows.boot_set ?_)
  refine PyProof.Rows.callWith_type1 (PyProof.Rows.args_cons (thn (ha.run pins s σ H _ I h) fun v s1 ⟨x, H1, I1, r1, q1⟩ => PyProof.Rows.args_nil ?_) na) na rfl
  obtain ⟨l, ns, rfl, hq, h1, q1⟩ := q1
  cases r1
  refine set_run hc I1 hq h1 fun h' tk c hS hc' I2 => PyProof.Rows.args_nil ?_
  refine sorted_set hS (I2.ok.hd hc) (by omega) fun s' p out c2 ns' k g o hp hg hi hs hmm hl => ?_
  have en : ns' = srtU ns := lt_uniq hs (srtU_lt ns) fun k => by rw [hmm k, srtU_mem]; simp
  subst en
  have hlen : ((srtU ns).map V.int).length ≤ sizeLine := by rw [List.length_map, hl, sizeLine_eq]; omega
  have hn : H1 p = none := I2.hok.fresh hp
  generalize hs2 : ({ s1 with heap := h', toks := tk } : Shared) = s2 at I2 k g o
  have J : Inv X pins σ (upd H1 p (.lst ((srtU ns).map V.int))) { s2 with heap := s'.heap, gens := s'.gens, drawn := s'.drawn, toks := s'.toks } :=
    I2.call (ch := []) (Un.laid k (by rw [← hs2]; exact hp) hn) (I2.hok.laid k (by rw [← hs2]; exact hp) ⟨hlen, out.toList, c2, vals_of_ints hi, hg⟩) (by rw [g]; exact I2.bare) (fun _ z => nomatch z)
  have e : s' = { s2 with heap := s'.heap, gens := s'.gens, drawn := s'.drawn, toks := s'.toks } := by
    cases s'
    cases s2
    cases o
    rfl
  rw [e]
  exact ⟨.ref p, _, J, rfl, q1 p hn⟩
/-- len(set(e)) -/
def tLenSet (K : PySem.W.Frag) (ta : TE) : TE := fun σ H Q => ta σ H fun x H1 => ∃ (l : Addr) (ns : List Int), x = V.ref l ∧ IntSeq K H1 l ns ∧ ns.length < 63 ∧ Q (.int (srtU ns).length) H1
theorem pe_lenSet {ta : TE} {p p2 q : Pos} (hc : X.calm = true) (hg : Gl X "len") (hm : X.mg "len" = none) (hg2 : Gl X "set") (hm2 : X.mg "set" = none) (ha : PE X e ta)
    (na : starEach [e] X.env = (false, eval e X.env) :: starEach [] X.env := by rfl) : PE X (.Call (.Name "len" p) [.Call (.Name "set" p2) [e] [] q] [] pos) (tLenSet X.K ta) := by
  refine ⟨fun pins s σ H Q I h => ?_⟩
  refine Call_ (ld_blt I hg hm PySem.boot_len (PyProof.Rows.callWith_builtin1 (PyProof.Rows.args_cons ?_ rfl) rfl rfl))
  refine Call_ (ld_blt I hg2 hm2 PyProof.Rows.boot_set ?_)
  refine PyProof.Rows.callWith_type1 (PyProof.Rows.args_cons (thn (ha.run pins s σ H _ I h) fun v s1 ⟨x, H1, I1, r1, q1⟩ => PyProof.Rows.args_nil ?_) na) na rfl
  obtain ⟨l, ns, rfl, hq, h1, q1⟩ := q1
  cases r1
  refine set_run hc I1 hq h1 fun h' tk c hS hc' I2 => PyProof.Rows.args_nil ?_
  obtain ⟨o, es, ep, t, ho, hex, hd, _, nd, hmm, _, hf, hn, _⟩ := hS
  have el : es.size = (srtU ns).length := by
    have q := nodup_len nd (List.Pairwise.imp (fun h => Int.ne_of_lt h) (srtU_lt ns)) fun k => by rw [← hmm k, srtU_mem]; simp
    rw [← q, List.length_map, Array.length_toList]
  exact call_len_set ho hex hd hf (by omega) ⟨.int (srtU ns).length, H1, I2.tok _, ⟨_, by rw [el]⟩, q1⟩
/-- the ints of a list or a tuple -/
def seqI (d : D) : Option (List Int) := match d with
  | .lst l => dInts l
  | .tup l => dInts l
  | _ => none
def oSortSet (d : D) (S : Sto) : Res D := match seqI d with
  | some ns => if ns.length < 63 then .ok (.lst ((srtU ns).map D.int)) S else .stuck
  | none => .stuck
def oLenSet (d : D) (S : Sto) : Res D := match seqI d with
  | some ns => if ns.length < 63 then .ok (.int ((srtU ns).length : Nat)) S else .stuck
  | none => .stuck
theorem rds_intsV {w : Wo} : ∀ {l : List D} {ns : List Int} {vs : List V}, dInts l = some ns → RDs w l vs → vs = ns.map V.int := fun {l ns vs} h r => by
  have h0 := (dInts_len h).2
  subst h0
  clear h
  induction ns generalizing vs with
  | nil => cases r; rfl
  | cons n t ih =>
    cases r with
    | cons h1 h2 => rw [List.map_cons, ← ih h2, h1.of_int]
theorem seqI_of {w : Wo} {d : D} {v : V} {ns : List Int} (rd : RL w d v) (h : seqI d = some ns) : ∃ l, v = .ref l ∧ IntSeq w.K.K w.H l ns := by
  cases d with
  | lst l =>
    obtain ⟨p, vs, rfl, hs, r⟩ := rd.lst
    have := rds_intsV h r
    subst this
    exact ⟨p, rfl, .inl (.of hs)⟩
  | tup l =>
    obtain ⟨p, vs, rfl, hs, r⟩ := (rd.rd (by intro _ z; cases z)).of_tup
    have := rds_intsV h r
    subst this
    exact ⟨p, rfl, .inr hs⟩
  | _ => cases h
theorem rds_ints {w : Wo} : ∀ ns : List Int, RDs w (ns.map D.int) (ns.map V.int)
  | [] => .nil
  | n :: r => .cons (.int n) (rds_ints r)
theorem df_sortSet {p p2 q : Pos} (hp : ∀ {ta : TE}, PE X e ta → PE X (.Call (.Name "sorted" p) [.Call (.Name "set" p2) [e] [] q] [] pos) (tSortSet X.K ta)) (ha : DB X Z e ma) (hK : Z.K.K = X.K := by rfl) :
    DF X Z (.Call (.Name "sorted" p) [.Call (.Name "set" p2) [e] [] q] [] pos) (x1 oSortSet ma) := PE.imp (hp ha) fun σV H Q => by
  rintro ⟨g, j, σ, S, R, h⟩
  refine ⟨g, j, σ, S, R, OutF.bind (fun d S1 j1 x H1 R1 s1 rd h1 => ?_) h⟩
  have rd := rd.rsv R1
  generalize rsv S1 d = d at rd h1
  unfold oSortSet at h1
  cases q : seqI d with
  | none => rw [q] at h1; exact h1.elim
  | some ns =>
    rw [q] at h1
    dsimp only at h1
    split at h1
    · rename_i hz
      obtain ⟨l, rfl, hs⟩ := seqI_of rd q
      refine ⟨l, ns, rfl, by rw [← hK]; exact hs, hz, fun p hp => out_lstF R1 ?_ (rds_ints _) h1 hp⟩
      rw [List.length_map]
      have := srtU_len ns
      rw [sizeLine_eq]; omega
    · exact h1.elim
theorem de_lenSet {p p2 q : Pos} (hp : ∀ {ta : TE}, PE X e ta → PE X (.Call (.Name "len" p) [.Call (.Name "set" p2) [e] [] q] [] pos) (tLenSet X.K ta)) (ha : DB X Z e ma) (hK : Z.K.K = X.K := by rfl) :
    DE X Z (.Call (.Name "len" p) [.Call (.Name "set" p2) [e] [] q] [] pos) (x1 oLenSet ma) := PE.imp (hp ha) fun σV H Q => by
  rintro ⟨g, j, σ, S, R, h⟩
  refine ⟨g, j, σ, S, R, OutR.bind (fun d S1 j1 x H1 R1 s1 rd h1 => ?_) h⟩
  have rd := rd.rsv R1
  generalize rsv S1 d = d at rd h1
  unfold oLenSet at h1
  cases q : seqI d with
  | none => rw [q] at h1; exact h1.elim
  | some ns =>
    rw [q] at h1
    dsimp only at h1
    split at h1
    · rename_i hz
      obtain ⟨l, rfl, hs⟩ := seqI_of rd q
      exact ⟨l, ns, rfl, by rw [← hK]; exact hs, hz, h1 j1 _ H1 R1 Stp.refl (.int _)⟩
    · exact h1.elim
end
end Qi
namespace Qi
open PySem PySem.Spec L2 PyProof.Rows
abbrev ZD := V × D
abbrev encD (b : ZD) : PyData := toPy b.2
def rSortDA (K : PySem.W.Frag) : List V → Hp → VK → Prop := fun vs H Q => ∃ (a : Addr) (xs : List V) (ds : List D), vs = [V.ref a] ∧ SqL K H a xs ∧ xs.length = ds.length ∧ (∀ b ∈ xs.zip ds, Dp K H b.1 (encD b)) ∧ PySem.W.AllAlike (ds.map toPy) ∧ (∀ d ∈ ds, (∃ x r, toPy d = .tuple (x :: r)) ∧ (toPy d).depth ≤ 4) ∧
  ∀ p, H p = none → Q (.ref p) (upd H p (.lst (((xs.zip ds).mergeSort (PySem.W.dataLe false encD)).map (·.1))))
theorem each_zD : ∀ {xs : List V} {its : List Value} {ds : List D}, Vals xs its → xs.length = ds.length → PySem.W.EachIs (fun u (b : ZD) => RelV b.1 u) its (xs.zip ds)
  | [], its, ds, r, h => by
    cases r
    exact .nil
  | x :: xs, its, ds, r, h => by
    cases r with
    | cons r1 r2 =>
      cases ds with
      | nil => simp at h
      | cons n ds => exact .cons r1 (each_zD r2 (by simpa using h))
theorem each_rD {X : Cx} {pins : List (Addr × Obj)} {σ : L2.St} {H : Hp} {s : Shared} (I : Inv X pins σ H s) : ∀ {its : List Value} {bs : List ZD}, PySem.W.EachIs (fun u (b : ZD) => RelV b.1 u) its bs → (∀ b ∈ bs, Dp X.K H b.1 (encD b)) → PySem.W.EachIs (fun u (b : ZD) => ∃ as, Reads s.heap u (encD b) as) its bs
  | _, _, .nil, _ => .nil
  | _, _, .cons r1 r2, h => .cons (Dp.reads I _ _ _ (h _ List.mem_cons_self) r1) (each_rD I r2 fun b hb => h b (List.mem_cons_of_mem _ hb))
theorem each_valsD : ∀ {its : List Value} {bs : List ZD}, PySem.W.EachIs (fun u (b : ZD) => RelV b.1 u) its bs → Vals (bs.map (·.1)) its
  | _, _, .nil => .nil
  | _, _, .cons r1 r2 => .cons r1 (each_valsD r2)
theorem cr_sortDA {X : Cx} (hu : X.A.units + 8 < cLine) : CallR X (.builtin "sorted") (rSortDA X.K) := by
  intro pins s σ H vs us Q I r h
  obtain ⟨a, xs, ds, rfl, hs, hlen, hx, hal, hd, q⟩ := h
  obtain ⟨its, rv, hl, hz⟩ := I.list hs
  obtain ⟨u, rfl, ru⟩ := r.one
  obtain rfl : u = Value.ref a := ru
  have e := each_zD rv hlen
  have zl : (xs.zip ds).length = xs.length := by rw [List.length_zip]; omega
  have mz : ∀ b ∈ xs.zip ds, b.2 ∈ ds := fun b hb => (List.of_mem_zip hb).2
  have me : (xs.zip ds).map encD = ds.map toPy := by
    rw [show encD = toPy ∘ (fun b : ZD => b.2) from rfl, ← List.map_map, List.map_snd_zip (by omega)]
  refine PySem.W.sorted_data (enc := encD) hl.isList e (each_rD I e fun b hb => hx b hb) (by rw [me]; exact hal) (.inl fun d hd' => ?_) (by rw [zl]; exact hz) (fun b hb => ?_) fun out ho he => ?_
  · obtain ⟨b, hb, rfl⟩ := List.mem_map.mp hd'
    exact (hd _ (mz b hb)).1
  · have := (hd _ (mz b hb)).2
    show X.A.units + 2 + (toPy b.2).depth < cLine
    omega
  · obtain ⟨ep, he'⟩ := PyProof.Rows.sortedAll_at s.heap its out.toArray
    refine ⟨.ref _, upd H (s.heap.objs.size + 1) (.lst (((xs.zip ds).mergeSort (PySem.W.dataLe false encD)).map (·.1))), I.laid (t' := s.toks) (fun _ _ => PyProof.Rows.sortedAll_old) (Nat.le_succ _) ⟨?_, out, ep, each_valsD he, he'⟩, rfl, q _ (I.hok.fresh (Nat.le_succ _))⟩
    rw [List.length_map, List.length_mergeSort, zl]
    exact hz
def tup1 : PyData → Bool
  | .tuple (_ :: _) => true
  | _ => false
def srtD (l : List D) : List D := l.mergeSort (PySem.W.dataLe false toPy)
def sortOk (l : List D) : Bool := l.all (okd 4) && (l.all fun a => l.all fun b => PySem.W.alike (toPy a) (toPy b)) && l.all fun a => tup1 (toPy a) && decide ((toPy a).depth ≤ 4)
def oSortD (d : D) (S : Sto) : Res D := match d with
  | .lst l => if sortOk l = true then .ok (.lst (srtD l)) S else .stuck
  | _ => .stuck
theorem rds_zipD {w : Wo} : ∀ {ds : List D} {vs : List V}, RDs w ds vs → ∀ b ∈ vs.zip ds, RD w b.2 b.1
  | [], _, .nil, b, h => by cases h
  | t :: ts, _ :: _, .cons h1 h2, b, h => by
    rw [List.zip_cons_cons] at h
    rcases List.mem_cons.mp h with rfl | h
    · exact h1
    · exact rds_zipD h2 b h
theorem rds_backD {w : Wo} : ∀ {zs : List ZD}, (∀ b ∈ zs, RD w b.2 b.1) → RDs w (zs.map (·.2)) (zs.map (·.1))
  | [], _ => .nil
  | b :: zs, h => .cons (h b List.mem_cons_self) (rds_backD fun c hc => h c (List.mem_cons_of_mem _ hc))
theorem pr_sortDF {K : PySem.W.Frag} : Pr1F K (r1 (rSortDA K)) oSortD := by
  intro Z g j σ S σV H x d Q hK R hd h
  cases d with
  | lst l =>
    have hlen := hd.len
    obtain ⟨a, vs, rfl, hs, r⟩ := hd.lst
    simp only [oSortD] at h
    by_cases q : sortOk l = true
    · rw [if_pos q] at h
      subst hK
      unfold sortOk at q
      rw [Bool.and_eq_true, Bool.and_eq_true, List.all_eq_true, List.all_eq_true, List.all_eq_true] at q
      obtain ⟨⟨q1, q2⟩, q3⟩ := q
      have hvl : vs.length = l.length := r.length
      have hz := rds_zipD r
      refine ⟨a, vs, l, rfl, .of hs, hvl, fun b hb => (hz b hb).dp (q1 _ (List.of_mem_zip hb).2), fun d hd' d' hd'' => ?_, fun d hd' => ?_, fun p hp => ?_⟩
      · obtain ⟨x, hx, rfl⟩ := List.mem_map.mp hd'
        obtain ⟨y, hy, rfl⟩ := List.mem_map.mp hd''
        exact List.all_eq_true.mp (q2 x hx) y hy
      · have := q3 d hd'
        rw [Bool.and_eq_true, decide_eq_true_iff] at this
        refine ⟨?_, this.2⟩
        have h1 := this.1
        unfold tup1 at h1
        split at h1
        · rename_i x r e
          exact ⟨x, r, e⟩
        · cases h1
      · have rr := rds_backD (zs := (vs.zip l).mergeSort (PySem.W.dataLe false encD)) fun b hb => hz b ((List.mergeSort_perm _ _).mem_iff.mp hb)
        have e2 : ((vs.zip l).mergeSort (PySem.W.dataLe false encD)).map (·.2) = srtD l := by
          unfold srtD
          rw [List.map_mergeSort (f := fun b : ZD => b.2) (r := PySem.W.dataLe false encD) (s := PySem.W.dataLe false toPy) fun a _ b _ => rfl, List.map_snd_zip (by omega)]
        rw [e2] at rr
        refine out_lstF R ?_ rr h hp
        unfold srtD
        rw [List.length_mergeSort]
        exact hlen
    · rw [if_neg q] at h; exact h.elim
  | _ => exact h.elim
end Qi
namespace Qi
open PySem PySem.Spec L2 PyProof.Rows
abbrev ZT := V × List Int
abbrev encT (b : ZT) : PyData := .tuple (b.2.map .int)
abbrev leT2 (p q : ZT) : Bool := decide (p.2 ≤ q.2)
def rSortTA (K : PySem.W.Frag) : List V → Hp → VK → Prop := fun vs H Q => ∃ (a : Addr) (xs : List V) (nss : List (List Int)), vs = [V.ref a] ∧ SqL K H a xs ∧ xs.length = nss.length ∧ (∀ b ∈ xs.zip nss, b.2 ≠ [] ∧ Dp K H b.1 (encT b)) ∧
  ∀ p, H p = none → Q (.ref p) (upd H p (.lst (((xs.zip nss).mergeSort leT2).map (·.1))))
theorem each_zT : ∀ {xs : List V} {its : List Value} {nss : List (List Int)}, Vals xs its → xs.length = nss.length → PySem.W.EachIs (fun u (b : ZT) => RelV b.1 u) its (xs.zip nss)
  | [], its, nss, r, h => by
    cases r
    exact .nil
  | x :: xs, its, nss, r, h => by
    cases r with
    | cons r1 r2 =>
      cases nss with
      | nil => simp at h
      | cons n nss => exact .cons r1 (each_zT r2 (by simpa using h))
theorem each_rT {X : Cx} {pins : List (Addr × Obj)} {σ : L2.St} {H : Hp} {s : Shared} (I : Inv X pins σ H s) : ∀ {its : List Value} {bs : List ZT}, PySem.W.EachIs (fun u (b : ZT) => RelV b.1 u) its bs → (∀ b ∈ bs, Dp X.K H b.1 (encT b)) → PySem.W.EachIs (fun u (b : ZT) => ∃ as, Reads s.heap u (encT b) as) its bs
  | _, _, .nil, _ => .nil
  | _, _, .cons r1 r2, h => .cons (Dp.reads I _ _ _ (h _ List.mem_cons_self) r1) (each_rT I r2 fun b hb => h b (List.mem_cons_of_mem _ hb))
theorem each_valsT : ∀ {its : List Value} {bs : List ZT}, PySem.W.EachIs (fun u (b : ZT) => RelV b.1 u) its bs → Vals (bs.map (·.1)) its
  | _, _, .nil => .nil
  | _, _, .cons r1 r2 => .cons r1 (each_valsT r2)
theorem dataLe_tups : PySem.W.dataLe false encT = leT2 := by
  funext p q
  have := congrFun (congrFun (PySem.W.dataLe_rows (β := ZT) (fun b => b.2)) p) q
  refine Eq.trans ?_ this
  show (!PySem.W.dataLt (.tuple (q.2.map .int)) (.tuple (p.2.map .int))) = (!PySem.W.dataLt (.list (q.2.map .int)) (.list (p.2.map .int)))
  rw [PySem.W.dataLt_tuple, PySem.W.dataLt_list]
theorem cr_sortTA {X : Cx} (hu : X.A.units + 8 < cLine) : CallR X (.builtin "sorted") (rSortTA X.K) := by
  intro pins s σ H vs us Q I r h
  obtain ⟨a, xs, nss, rfl, hs, hlen, hx, q⟩ := h
  obtain ⟨its, rv, hl, hz⟩ := I.list hs
  obtain ⟨u, rfl, ru⟩ := r.one
  obtain rfl : u = Value.ref a := ru
  have e := each_zT rv hlen
  have zl : (xs.zip nss).length = xs.length := by rw [List.length_zip]; omega
  refine PySem.W.sorted_data (enc := encT) hl.isList e (each_rT I e fun b hb => (hx b hb).2) (.of fun b b' => ?_) (.inl fun d hd => ?_) (by rw [zl]; exact hz) (fun b _ => ?_) fun out ho he => ?_
  · show PySem.W.alike (.tuple _) (.tuple _) = true
    have := PySem.W.alike_ints b.2 b'.2
    simpa [PySem.W.alike] using this
  · obtain ⟨b, hb, rfl⟩ := List.mem_map.mp hd
    obtain ⟨h1, _⟩ := hx b hb
    cases q : b.2 with
    | nil => exact absurd q h1
    | cons i r => exact ⟨.int i, r.map .int, by show PyData.tuple (b.2.map .int) = _; rw [q]; rfl⟩
  · have := PySem.W.depth_ints b.2
    have : (encT b).depth ≤ 1 := by
      show PyData.depth (.tuple _) ≤ 1
      simp only [PyData.depth, this]
      omega
    omega
  · rw [dataLe_tups] at he
    obtain ⟨ep, he'⟩ := PyProof.Rows.sortedAll_at s.heap its out.toArray
    refine ⟨.ref _, upd H (s.heap.objs.size + 1) (.lst (((xs.zip nss).mergeSort leT2).map (·.1))), I.laid (t' := s.toks) (fun _ _ => PyProof.Rows.sortedAll_old) (Nat.le_succ _) ⟨?_, out, ep, each_valsT he, he'⟩, rfl, q _ (I.hok.fresh (Nat.le_succ _))⟩
    rw [List.length_map, List.length_mergeSort, zl]
    exact hz
def dTup : D → Option (List Int)
  | .tup (x :: r) => dInts (x :: r)
  | _ => none
def dTups : List D → Option (List (List Int))
  | [] => some []
  | d :: r => match dTup d with
    | some t => (dTups r).map (t :: ·)
    | none => none
def ofT (t : List Int) : D := .tup (t.map D.int)
def srtT (l : List (List Int)) : List (List Int) := l.mergeSort fun p q => decide (p ≤ q)
theorem dTup_eq {d : D} {t : List Int} (h : dTup d = some t) : d = ofT t ∧ t ≠ [] := by
  unfold dTup at h
  split at h
  · rename_i x r
    have := (dInts_len h).2
    unfold ofT
    rw [← this]
    refine ⟨rfl, fun e => ?_⟩
    rw [e] at this
    cases this
  · cases h
theorem dTups_eq : ∀ {l : List D} {ts : List (List Int)}, dTups l = some ts → l = ts.map ofT ∧ ∀ t ∈ ts, t ≠ []
  | [], ts, h => by cases h; exact ⟨rfl, fun t h => by cases h⟩
  | d :: r, ts, h => by
    unfold dTups at h
    cases q : dTup d with
    | none => rw [q] at h; cases h
    | some t =>
      rw [q] at h
      cases q2 : dTups r with
      | none => rw [q2] at h; cases h
      | some ts' =>
        rw [q2] at h
        cases h
        obtain ⟨rfl, h1⟩ := dTup_eq q
        obtain ⟨rfl, h2⟩ := dTups_eq q2
        refine ⟨rfl, fun t' ht => ?_⟩
        rcases List.mem_cons.mp ht with rfl | ht
        · exact h1
        · exact h2 t' ht
def oSortT (d : D) (S : Sto) : Res D := match d with
  | .lst l => match dTups l with
    | some ts => .ok (.lst ((srtT ts).map ofT)) S
    | none => oSortD (.lst l) S
  | _ => .stuck
def rSortTD (K : PySem.W.Frag) : List V → Hp → VK → Prop := fun vs H Q => rSortTA K vs H Q ∨ rSortDA K vs H Q
theorem cr_sortTD {X : Cx} (hu : X.A.units + 8 < cLine) : CallR X (.builtin "sorted") (rSortTD X.K) := CallR.or (cr_sortTA hu) (cr_sortDA hu)
theorem toPys_ints : ∀ t : List Int, toPys (t.map D.int) = t.map .int
  | [] => rfl
  | i :: t => by rw [List.map_cons, List.map_cons, ← toPys_ints t]; rfl
theorem okd_ofT {t : List Int} : okd 2 (ofT t) = true := by
  show (t.map D.int).all (okd 1) = true
  rw [List.all_eq_true]
  intro x hx
  obtain ⟨i, _, rfl⟩ := List.mem_map.mp hx
  rfl
theorem rds_zipT {w : Wo} : ∀ {ts : List (List Int)} {vs : List V}, RDs w (ts.map ofT) vs → ∀ b ∈ vs.zip ts, RD w (ofT b.2) b.1
  | [], _, .nil, b, h => by cases h
  | t :: ts, _ :: _, .cons h1 h2, b, h => by
    rw [List.zip_cons_cons] at h
    rcases List.mem_cons.mp h with rfl | h
    · exact h1
    · exact rds_zipT h2 b h
theorem rds_backT {w : Wo} : ∀ {zs : List ZT}, (∀ b ∈ zs, RD w (ofT b.2) b.1) → RDs w ((zs.map (·.2)).map ofT) (zs.map (·.1))
  | [], _ => .nil
  | b :: zs, h => .cons (h b List.mem_cons_self) (rds_backT fun c hc => h c (List.mem_cons_of_mem _ hc))
theorem pr_sortTF {K : PySem.W.Frag} : Pr1F K (r1 (rSortTD K)) oSortT := by
  intro Z g j σ S σV H x d Q hK R hd h
  cases d with
  | lst l =>
    have hlen := hd.len
    obtain ⟨a, vs, rfl, hs, r⟩ := hd.lst
    simp only [oSortT] at h
    cases q : dTups l with
    | none => rw [q] at h; exact .inr (pr_sortDF Z g j σ S σV H _ _ Q hK R hd h)
    | some ts =>
      rw [q] at h
      obtain ⟨el, hne⟩ := dTups_eq q
      subst el
      subst hK
      have hvl : vs.length = ts.length := by rw [r.length, List.length_map]
      have hz := rds_zipT r
      refine .inl ⟨a, vs, ts, rfl, .of hs, hvl, fun b hb => ⟨hne _ (List.of_mem_zip hb).2, ?_⟩, fun p hp => ?_⟩
      · have := (hz b hb).dp okd_ofT
        rw [show toPy (ofT b.2) = encT b from by show PyData.tuple (toPys (b.2.map D.int)) = _; rw [toPys_ints]] at this
        exact this
      · have rr := rds_backT (zs := (vs.zip ts).mergeSort leT2) fun b hb => hz b ((List.mergeSort_perm _ _).mem_iff.mp hb)
        have e2 : ((vs.zip ts).mergeSort leT2).map (·.2) = srtT ts := by
          unfold srtT
          rw [List.map_mergeSort (f := fun b : ZT => b.2) (r := leT2) (s := fun p q => decide (p ≤ q)) fun a _ b _ => rfl, List.map_snd_zip (by omega)]
        rw [e2] at rr
        refine out_lstF R ?_ rr h hp
        rw [List.length_map]
        unfold srtT
        rw [List.length_mergeSort]
        rw [List.length_map] at hlen
        exact hlen
  | _ => exact h.elim
end Qi
namespace Qi
open PySem PySem.Spec L2 PyProof.Rows
def rSortPA (K : PySem.W.Frag) : List V → Hp → VK → Prop := fun vs H Q => ∃ (a : Addr) (xs : List V) (ps : List (Int × Int)), vs = [V.ref a] ∧ SqL K H a xs ∧ xs.length = ps.length ∧ (∀ (i : Nat) (x : V), xs[i]? = some x → ∃ (p : Int × Int) (t : Addr), ps[i]? = some p ∧ x = V.ref t ∧ SqT K H t [.int p.1, .int p.2]) ∧
  ∀ (zs : List (V × (Int × Int))) p, zs.Perm (xs.zip ps) → (zs.map (·.2)).Pairwise (fun a b => SrtO.lexB b a = false) → H p = none → Q (.ref p) (upd H p (.lst (zs.map (·.1))))
theorem cr_sortPA {X : Cx} : CallR X (.builtin "sorted") (rSortPA X.K) := by
  intro pins s σ H vs us Q I r h
  obtain ⟨a, xs, ps, rfl, hs, hlen, hx, q⟩ := h
  obtain ⟨its, rv, hl, hz⟩ := I.list hs
  obtain ⟨u, rfl, ru⟩ := r.one
  obtain rfl : u = Value.ref a := ru
  have hxm : ∀ x ∈ xs, ∃ (p : Int × Int) (t : Addr), x = V.ref t ∧ SqT X.K H t [.int p.1, .int p.2] := fun x m => by
    obtain ⟨i, hi, e⟩ := List.getElem_of_mem m
    obtain ⟨p, t, _, h1, h2⟩ := hx i x (by rw [← e]; exact List.getElem?_eq_getElem hi)
    exact ⟨p, t, h1, h2⟩
  have hk : ∃ k : V → Int × Int, ∀ x ∈ xs, ∃ t, x = V.ref t ∧ SqT X.K H t [.int (k x).1, .int (k x).2] := by
    classical
    refine ⟨fun x => if h : x ∈ xs then (hxm x h).choose else (0, 0), fun x m => ?_⟩
    simp only [m, dif_pos]
    exact (hxm x m).choose_spec
  obtain ⟨k, hk⟩ := hk
  have kp : ∀ (i : Nat) (x : V) (p : Int × Int), xs[i]? = some x → ps[i]? = some p → k x = p := fun i x p e1 e2 => by
    obtain ⟨p', t, h1, h2, h3⟩ := hx i x e1
    rw [e2] at h1
    cases h1
    obtain ⟨t', h4, h5⟩ := hk x (List.mem_of_getElem? e1)
    rw [h2] at h4
    cases h4
    have e := I.tuple_inj h5 h3
    simp only [List.cons.injEq, V.int.injEq, and_true] at e
    exact Prod.ext e.1 e.2
  have ez : xs.zip ps = xs.map fun x => (x, k x) := by
    refine List.ext_getElem? fun i => ?_
    rw [List.getElem?_map]
    cases e1 : xs[i]? with
    | none =>
      rw [List.getElem?_eq_none_iff.mpr]; rfl
      have := List.getElem?_eq_none_iff.mp e1
      rw [List.length_zip]; omega
    | some x =>
      have hi := (List.getElem?_eq_some_iff.mp e1).1
      have hi2 : i < ps.length := by omega
      have e2 : ps[i]? = some ps[i] := List.getElem?_eq_getElem hi2
      rw [(List.getElem?_zip_eq_some (z := (x, ps[i]))).mpr ⟨e1, e2⟩, Option.map_some, kp i x _ e1 e2]
  obtain ⟨e1, e2⟩ := refs_back rv fun x m => let ⟨t, e, _⟩ := hk x m; ⟨t, e⟩
  refine SrtO.sorted_pairsO (k := fun u => k (backV u)) hl.isList (by rw [← rv.length]; exact hz) (fun v hv => ?_) fun h' d out h1 h2 kpp hd hn => ?_
  · obtain ⟨t, rfl⟩ := e2 v hv
    obtain ⟨t', e, ht⟩ := hk (V.ref t) (by rw [e1]; exact List.mem_map.mpr ⟨_, hv, rfl⟩)
    cases e
    obtain ⟨its2, r2, ⟨o, ho, hc, n, hd⟩, _⟩ := I.tuple ht
    obtain ⟨u1, u2, rfl, ri, rj⟩ := r2.two
    obtain ⟨t1, rfl⟩ := ri
    obtain ⟨t2, rfl⟩ := rj
    exact ⟨t, o, t1, t2, n, rfl, ho, hc, hd⟩
  · have h3 : ∀ u ∈ out, ∃ a, u = Value.ref a := fun u hu => e2 u (h2.perm.mem_iff.mp hu)
    obtain ⟨n, hn⟩ := hn
    have hb : (out.map backV).Perm xs := by rw [e1]; exact h2.perm.map _
    have q2 := q ((out.map backV).map fun x => (x, k x)) d (by rw [ez]; exact hb.map _) (by
      rw [List.map_map, List.map_map]
      exact List.pairwise_map.mpr h1) (I.hok.fresh hd)
    have e3 : ((out.map backV).map fun x => (x, k x)).map (·.1) = out.map backV := by rw [List.map_map]; exact List.map_id _
    rw [e3] at q2
    refine ⟨.ref d, upd H d (.lst (out.map backV)), I.laid (t' := s.toks) kpp hd ⟨?_, out, n, vals_back h3, hn⟩, rfl, q2⟩
    rw [hb.length_eq]
    exact hz
def asP : D → Option (Int × Int)
  | .tup [.int x, .int y] => some (x, y)
  | _ => none
def dPairs : List D → Option (List (Int × Int))
  | [] => some []
  | d :: r => match asP d with
    | some p => (dPairs r).map (p :: ·)
    | none => none
def ofP (p : Int × Int) : D := .tup [.int p.1, .int p.2]
def leP (p q : Int × Int) : Bool := decide (p.1 < q.1) || (decide (p.1 = q.1) && decide (p.2 ≤ q.2))
def insP (x : Int × Int) : List (Int × Int) → List (Int × Int)
  | [] => [x]
  | y :: r => if leP x y = true then x :: y :: r else y :: insP x r
def srtP : List (Int × Int) → List (Int × Int)
  | [] => []
  | x :: r => insP x (srtP r)
theorem leP_iff {p q : Int × Int} : leP p q = true ↔ p.1 < q.1 ∨ (p.1 = q.1 ∧ p.2 ≤ q.2) := by simp [leP]
theorem leP_total {p q : Int × Int} (h : ¬ leP p q = true) : leP q p = true := by
  rw [leP_iff] at h ⊢
  omega
theorem leP_trans {p q r : Int × Int} (h : leP p q = true) (h' : leP q r = true) : leP p r = true := by
  rw [leP_iff] at h h' ⊢
  omega
theorem leP_anti {p q : Int × Int} (h : leP p q = true) (h' : leP q p = true) : p = q := by
  rw [leP_iff] at h h'
  exact Prod.ext (by omega) (by omega)
theorem insP_perm (x : Int × Int) : ∀ l, (insP x l).Perm (x :: l)
  | [] => .refl _
  | y :: r => by
    unfold insP
    split
    · exact .refl _
    · exact ((insP_perm x r).cons y).trans (.swap _ _ _)
theorem srtP_perm : ∀ l, (srtP l).Perm l
  | [] => .refl _
  | x :: r => (insP_perm x _).trans ((srtP_perm r).cons x)
theorem insP_sorted (x : Int × Int) : ∀ l, l.Pairwise (fun a b => leP a b = true) → (insP x l).Pairwise (fun a b => leP a b = true)
  | [], _ => by simp [insP]
  | y :: r, h => by
    obtain ⟨h1, h2⟩ := List.pairwise_cons.mp h
    unfold insP
    split
    · rename_i q
      refine List.pairwise_cons.mpr ⟨fun z hz => ?_, h⟩
      rcases List.mem_cons.mp hz with e | e
      · rw [e]; exact q
      · exact leP_trans q (h1 z e)
    · rename_i q
      refine List.pairwise_cons.mpr ⟨fun z hz => ?_, insP_sorted x r h2⟩
      rcases List.mem_cons.mp ((insP_perm x r).mem_iff.mp hz) with e | e
      · rw [e]; exact leP_total q
      · exact h1 z e
theorem srtP_sorted : ∀ l, (srtP l).Pairwise (fun a b => leP a b = true)
  | [] => .nil
  | x :: r => insP_sorted x _ (srtP_sorted r)
theorem sortedP_uniq : ∀ {l l' : List (Int × Int)}, l.Perm l' → l.Pairwise (fun a b => leP a b = true) → l'.Pairwise (fun a b => leP a b = true) → l = l'
  | [], l', h, _, _ => by rw [List.nil_perm.mp h]
  | x :: r, [], h, _, _ => absurd h.length_eq (by simp)
  | x :: r, y :: t, h, h1, h2 => by
    obtain ⟨a1, a2⟩ := List.pairwise_cons.mp h1
    obtain ⟨b1, b2⟩ := List.pairwise_cons.mp h2
    have e : x = y := by
      rcases List.mem_cons.mp (h.mem_iff.mp List.mem_cons_self) with e | e
      · exact e
      · rcases List.mem_cons.mp (h.mem_iff.mpr List.mem_cons_self) with e' | e'
        · exact e'.symm
        · exact leP_anti (a1 y e') (b1 x e)
    subst e
    rw [sortedP_uniq ((List.perm_cons x).mp h) a2 b2]
theorem dPairs_eq : ∀ {l : List D} {ps : List (Int × Int)}, dPairs l = some ps → l = ps.map ofP
  | [], ps, h => by cases h; rfl
  | d :: r, ps, h => by
    unfold dPairs at h
    cases q : asP d with
    | none => rw [q] at h; cases h
    | some p =>
      rw [q] at h
      cases q2 : dPairs r with
      | none => rw [q2] at h; cases h
      | some t =>
        rw [q2] at h
        cases h
        rw [List.map_cons, ← dPairs_eq q2]
        unfold asP at q
        split at q
        · cases q; rfl
        · cases q
def oSortP (d : D) (S : Sto) : Res D := match d with
  | .lst l => match dPairs l with
    | some ps => .ok (.lst ((srtP ps).map ofP)) S
    | none => oSortT (.lst l) S
  | _ => .stuck
/-- what each of the values is -/
theorem rds_pairs {w : Wo} : ∀ {ps : List (Int × Int)} {vs : List V}, RDs w (ps.map ofP) vs → ∀ {i : Nat} {v : V}, vs[i]? = some v → ∃ p t, ps[i]? = some p ∧ v = .ref t ∧ SqT w.K.K w.H t [.int p.1, .int p.2]
  | [], _, .nil, i, v, h => by simp at h
  | p :: ps, _ :: _, .cons h1 h2, 0, v, h => by
    simp only [List.getElem?_cons_zero, Option.some.injEq] at h ⊢
    subst h
    obtain ⟨t, us, e, hs, r⟩ := h1.of_tup
    cases r with
    | cons r1 r =>
      cases r with
      | cons r2 r =>
        cases r
        rw [r1.of_int, r2.of_int] at hs
        exact ⟨p, t, rfl, e, hs⟩
  | p :: ps, _ :: _, .cons h1 h2, i + 1, v, h => by
    simp only [List.getElem?_cons_succ] at h ⊢
    exact rds_pairs h2 h
theorem lexB_le {p q : Int × Int} (h : SrtO.lexB q p = false) : leP p q = true := by
  have := SrtO.lexB_no.mp h
  rw [leP_iff]
  omega
theorem pr_sortPF {K : PySem.W.Frag} : Pr1F K (r1 (fun xs H Q => rSortPA K xs H Q ∨ rSortTD K xs H Q)) oSortP := by
  intro Z g j σ S σV H x d Q hK R hd h
  cases d with
  | lst l =>
    have hlen := hd.len
    obtain ⟨a, vs, rfl, hs, r⟩ := hd.lst
    simp only [oSortP] at h
    cases q : dPairs l with
    | none => rw [q] at h; exact .inr (pr_sortTF Z g j σ S σV H _ _ Q hK R hd h)
    | some ps =>
      rw [q] at h
      have el := dPairs_eq q
      subst el
      subst hK
      have hvl : vs.length = ps.length := by rw [r.length, List.length_map]
      refine .inl ⟨a, vs, ps, rfl, .of hs, hvl, fun i x hx => rds_pairs r hx, fun zs p pm srt hp => ?_⟩
      have e2 : zs.map (·.2) = srtP ps := by
        refine sortedP_uniq ?_ (srt.imp lexB_le) (srtP_sorted ps)
        have : (zs.map (·.2)).Perm ((vs.zip ps).map (·.2)) := pm.map _
        rw [List.map_snd_zip (by omega)] at this
        exact this.trans (srtP_perm ps).symm
      have rz : ∀ l : List (V × (Int × Int)), (∀ z ∈ l, RD (wz Z g j σ S σV H) (ofP z.2) z.1) → RDs (wz Z g j σ S σV H) ((l.map (·.2)).map ofP) (l.map (·.1)) := fun l => by
        induction l with
        | nil => exact fun _ => .nil
        | cons z t ih => exact fun hz => .cons (hz z List.mem_cons_self) (ih fun y hy => hz y (List.mem_cons_of_mem _ hy))
      have rr := rz zs fun z hz => by
        have hz2 := pm.mem_iff.mp hz
        obtain ⟨i, hi, ez⟩ := List.getElem_of_mem hz2
        have hi2 : i < ps.length := by rw [List.length_zip] at hi; omega
        have hi3 : i < vs.length := by omega
        have e3 : (ps.map ofP)[i]? = some (ofP ps[i]) := by rw [List.getElem?_map, List.getElem?_eq_getElem hi2]; rfl
        obtain ⟨v, ev, rd⟩ := r.get e3
        rw [List.getElem?_eq_getElem hi3] at ev
        cases ev
        rw [← ez, List.getElem_zip]
        exact rd
      rw [e2] at rr
      refine out_lstF R ?_ rr h hp
      rw [List.length_map, (srtP_perm ps).length_eq]
      rw [List.length_map] at hlen
      exact hlen
  | _ => exact h.elim
end Qi
namespace SrtO
open PySem PyProof.Rows
section
variable {prog : Program} {w : World} {A : Around} {E : Value → Shared → Prop} {s : Shared}
/-- the items of a tuple, collected in a new list -/
theorem collectT {Q : List Value → Shared → Prop} {l : Addr} {o : Obj} {its : Array Value} {n : Nat} (ho : s.heap.get? l = some o) (hc : o.cls = .type "tuple") (hd : o.data = .seq its n) (hz : its.size ≤ sizeLine)
    (h : ∀ h', (∀ b u, s.heap.get? b = some u → h'.get? b = some u) → s.heap.objs.size ≤ h'.objs.size → Q its.toList { s with heap := h' }) : wpAny (model prog w) A (collect (.ref l)) Q E s := by
  let g0 : Heap := s.heap.push { cls := .type "list", data := .seq ([] : List Value).toArray }
  let g1 : Heap := g0.update s.heap.objs.size (Obj.mapSeq fun x => x ++ its)
  have e0 : g0.get? s.heap.objs.size = some { cls := .type "list", data := .seq #[] 0 } := Heap.get?_push_size _ rfl
  have e1 := Heap.get?_update_self (Obj.mapSeq fun x => x ++ its) e0 rfl
  have last : wpAny (model prog w) A (do
      match (← load s.heap.objs.size).data with
      | Data.seq xs _ => pure xs.toList
      | _ => unsupported "internal:collect") Q E { s with heap := g1 } := by
    refine wpAny_bind (wpAny_load e1 (wpAny_pure ?_))
    have e : ((#[] : Array Value) ++ its).toList = its.toList := by simp
    show Q ((#[] : Array Value) ++ its).toList _
    rw [e]
    exact h g1 (fun b u hb => (Heap.get?_update_other _ _ (Nat.ne_of_gt (Heap.lt_size hb))).trans (Heap.get?_push_of_some _ hb)) (by
      show _ ≤ (g0.update _ _).objs.size
      rw [Heap.size_update, size_push']; exact Nat.le_succ _)
  unfold collect
  refine wpAny_bind (wpAny_runValue (codeAny_builtin F.entry_proto_collect ?_))
  rw [Around.under_plainId F.plain_proto_collect _]
  refine wpAny_bind (wpAny_newObj_type (wpAny_pure ⟨plainId_quiet F.plain_list_iadd _, codeAny_builtin F.entry_list_iadd ?_⟩))
  rw [Around.under_plainId F.plain_list_iadd _]
  refine wpAny_mono (wpAny_extend_seq (hsz := hz) (A := A) (s := { s with heap := g0 }) (R := fun r s' => r = .ok (.ret (.ref s.heap.objs.size)) ∧ s' = { s with heap := g1 })
    _ l _ 0 (.inr rfl) e0 (Heap.get?_push_of_some _ ho) hc hd ⟨rfl, rfl⟩) (fun fin s' q => ?_) fun e s' q => absurd q.1 (by simp)
  cases fin with
  | done f =>
    obtain ⟨e, rfl⟩ := q
    cases e
    exact last
  | again c' =>
    exact ⟨q.1, codeAny_mono q.2 fun r s'' hr => by
      obtain ⟨rfl, rfl⟩ := hr
      exact last⟩
theorem sorted_ordT {l : Addr} {vs : List Value} {ltv : Value → Value → Bool} {Q : Value → Shared → Prop} (O : Swo ltv) (hl : s.heap.IsTuple l vs.toArray) (hz : vs.length ≤ sizeLine)
    (hS : 2 ≤ vs.length → ∀ (h₁ : Heap) (a : Addr), SortableO prog w A.in1.in1 { s with heap := h₁ } a vs ltv)
    (h : ∀ (out : List Value) (h' : Heap) (p : Addr), Srtd ltv out → Stb ltv out vs → (∀ b o, s.heap.get? b = some o → h'.get? b = some o) → s.heap.objs.size ≤ p → (∃ e, h'.get? p = some (seqObj "list" out.toArray e)) → Q (.ref p) { s with heap := h' }) :
    wpAny (model prog w) A (call (.builtin "sorted") [.ref l]) Q E s := by
  obtain ⟨o, ho, hc, n, hd⟩ := id hl
  refine Calls.call_function_entry (E := E) kind_sorted plain_sorted entry_sorted (args_sorted1 _) (?_ : _)
  unfold Builtin.«sorted»
  refine wpAny_bind (m := checkCount "sorted" 1 1 _) (wpAny_pure (wpAny_bind (collectT ho hc hd (by rw [List.size_toArray]; exact hz) fun h1 k1 hle => ?_)))
  show wpAny _ _ _ _ _ { s with heap := h1 }
  refine wpAny_bind (wpAny_newList ?_ hz)
  have hoL : (h1.push (seqObj "list" vs.toArray 0)).get? h1.objs.size = some (seqObj "list" vs.toArray 0) := Heap.get?_push_size _ rfl
  show wpAny _ _ _ _ _ { s with heap := h1.push (seqObj "list" vs.toArray 0) }
  refine wpAny_bind (wpAny_holding (wpAny_call_entry slot_list_sort ⟨_, hoL, rfl⟩ entry_list_sort (list_sort_ord O hoL hz (fun h2 => hS h2 _ _) fun out hs hb => ⟨_, rfl, ?_⟩) (args_list_sort _)))
  refine wpAny_pure ⟨_, rfl, h out _ _ hs hb (fun b o' e => ?_) hle (sortedHeap_at hoL)⟩
  have hlt : b < h1.objs.size := Heap.lt_size (k1 _ _ e)
  rw [sortedHeap_old (Nat.ne_of_lt hlt) (by rw [size_push']; exact Nat.lt_succ_of_lt hlt)]
  exact Heap.get?_push_of_some _ (k1 _ _ e)
end
end SrtO
namespace Qi
open PySem PySem.Spec L2 PyProof.Rows
def rSortU (K : PySem.W.Frag) : List V → Hp → VK → Prop := fun vs H Q => ∃ (a : Addr) (ns : List Int), vs = [V.ref a] ∧ SqT K H a (ns.map V.int) ∧
  ∀ (ns' : List Int) (p : Addr), ns'.Perm ns → ns'.Pairwise (· ≤ ·) → H p = none → Q (.ref p) (upd H p (.lst (ns'.map V.int)))
theorem cr_sortU {X : Cx} : CallR X (.builtin "sorted") (rSortU X.K) := by
  intro pins s σ H vs us Q I r h
  obtain ⟨a, ns, rfl, hs, q⟩ := h
  obtain ⟨its, rv, hl, hz⟩ := I.tuple hs
  rw [Vals.ref1 r]
  have hi := rv.ints
  refine SrtO.sorted_ordT SrtO.swo_int (show s.heap.IsTuple a its.toArray from hl) (by rw [← rv.length]; exact hz) (fun h2 h₁ a' => SrtO.ints_sortable hi h2) fun out h' p h1 h2 keep hp hat => ?_
  obtain ⟨k1, k2, k3⟩ := SrtO.ints_out hi h1 h2
  obtain ⟨ep, he'⟩ := hat
  have hlen : ((out.map SrtO.iv).map V.int).length ≤ sizeLine := by
    rw [List.length_map, k2.length_eq]
    rw [List.length_map] at hz
    exact hz
  exact ⟨.ref _, upd H p (.lst ((out.map SrtO.iv).map V.int)), I.laid (t' := s.toks) keep hp ⟨hlen, out, ep, vals_of_ints k1, he'⟩, rfl, q _ _ k2 k3 (I.hok.fresh hp)⟩
def oSortU (d : D) (S : Sto) : Res D := match d with
  | .tup l => match dInts l with
    | some ns => .ok (.lst ((srtI ns).map D.int)) S
    | none => .stuck
  | _ => .stuck
theorem pr_sortUF {K : PySem.W.Frag} : Pr1F K (r1 (rSortU K)) oSortU := by
  intro Z g j σ S σV H x d Q hK R hd h
  cases d with
  | tup l =>
    have hd' := hd.rd (by intro _ z; cases z)
    have hlen := hd'.len_tup
    obtain ⟨p, vs, rfl, hs, r⟩ := hd'.of_tup
    simp only [oSortU] at h
    cases q : dInts l with
    | none => rw [q] at h; exact h.elim
    | some ns =>
      rw [q] at h
      have e := r.dInts q
      subst e
      subst hK
      refine ⟨p, ns, rfl, hs, fun ns' t hp hsrt ht => ?_⟩
      have e2 : ns' = srtI ns := sorted_uniq (hp.trans (srtI_perm ns).symm) hsrt (srtI_sorted ns)
      subst e2
      refine out_lstF R ?_ (RDs.of_ints _) h ht
      rw [List.length_map, (srtI_perm ns).length_eq, ← (dInts_len q).1]
      exact hlen
  | _ => exact h.elim
end Qi
namespace Qi
open PySem PySem.Spec L2 PyProof.Rows
structure FnG (P : Program) (w : World) (K : PySem.W.Frag) (mg : Str → Option Value) (base : Heap) (CX : CXT) (k : Nat) (f : Addr) (fd : FuncData) (ps : List Str) (sp : Sp) : Prop where
  len : ∀ vs H Q E, sp vs H Q E → vs.length = ps.length
  run : ∀ (A : Around) (outer : List Env) (s : Shared) (H : Hp) (args : Args) (us : List Value) (vs : List V) (Q : VK) (E : XK), Room k A → A.guards = some [] → Env0 P w K mg base A outer s H → BindsTo s fd args (ps.zip us) → Vals vs us → sp vs H Q E →
    codeAny (model P w) A (.call (.ref f) args) (CR CX outer P w H s Q E) s
theorem fnG_of {P : Program} {w : World} {K : PySem.W.Frag} {mg : Str → Option Value} {base : Heap} {CX : CXT} {k : Nat} {f : Addr} {fd : FuncData} {ps : List Str} {sp : Sp} (F : FnOk P w K mg base CX k f fd ps sp) : FnG P w K mg base CX k f fd ps sp :=
  ⟨F.len, fun A outer s H args us vs Q E hr _ => F.run A outer s H args us vs Q E hr⟩
/-- a def of the text, by its body -/
theorem okG {P : Program} {w : World} {K : PySem.W.Frag} {mg : Str → Option Value} {base : Heap} {x qual : Str} {st : Stmt} {f : Addr} {fd : FuncData} {N ps : List Str} {k : Nat} {sp : Sp} (F : Fun K x qual st f fd) (SC : FnScope N ps (defScope st)) (len : ∀ vs H Q E, sp vs H Q E → vs.length = ps.length)
    (hbody : ∀ (cdv : Value), fd.code = cdv → ∀ (A : Around) (outer : List Env) (s : Shared) (H : Hp) (vs : List V) (Q : VK) (E : XK), Room k (A.deeper (envOfC qual (defScope st) s.heap.objs.size f cdv)) → A.guards = some [] → sp vs H Q E →
      ∃ t, PSs (cxOf (L2.CX P w) P w K mg base N qual (defScope st) f cdv A outer s H E) (defBody st) t ∧ t { nx := fun _ H' => Q .non H', rt := Q } (L2.start N vs) H) : FnG P w K mg base (L2.CX P w) (k + 1) f fd ps sp := by
  refine ⟨len, fun A outer s H args us vs Q E hr hg e0 hb r hsp => ?_⟩
  obtain ⟨oc, od, kV, doc, pm, an, cdv, ct, osl, rfl, lk, hcd⟩ := F.ex
  have hl := len _ _ _ _ hsp
  have KX : K.In s.heap := e0.mod.kin.keeps fun b o e => (e0.bs b o e).1
  have lim : s.heap.NoLimit := e0.mod.nolimit.keeps fun b o e => (e0.bs b o e).1
  have hkind : ∀ y ∈ ps.zip us, (defScope st).names.lookup y.1 = some .local ∨ ((defScope st).names.lookup y.1 = some .cell ∧ ((cellsFrom (s.heap.objs.size + 1) (defScope st).names []).lookup y.1).isSome = true) := fun y hy =>
    (SC.par y.1 (List.of_mem_zip hy).1).imp (fun q => q) fun q => ⟨q, PySem.W.cellsFrom_some _ _ _ (.inl q)⟩
  obtain ⟨t, ht, hq⟩ := hbody cdv rfl A outer s H vs Q E (hr.deeper _) hg hsp
  refine codeAny_call_function hr.depth (KX _ _ lk) rfl SC.co SC.gen rfl (PySem.W.codeRec_of KX hcd) (hb _ _ _ _ (wpAny_newFunctionEnv_cells SC.kind hkind fun env he s1 xx => ?_))
  subst he
  have I : Inv (cxOf (L2.CX P w) P w K mg base N qual (defScope st) f cdv A outer s H E) [] (L2.start N vs) H s1 := inv_start SC hr.hd e0 hl r xx
  refine ⟨lim.keeps xx.toInCall.keep, codeAny_func (wpAny_mono (ht.run [] s1 (L2.start N vs) H _ I hq) (fun fl s' hs => ?_) fun e s' hs => hs)⟩
  match fl, hs with
  | .ret u, ⟨v, σ', H', J, rv, q⟩ => exact ⟨v, H', J.os, J.bare, J.base, J.hok, rv, q⟩
  | .next, ⟨σ', H', J, q⟩ => exact ⟨.non, H', J.os, J.bare, J.base, J.hok, rfl, q⟩
  | .brk, ⟨_, _, _, q⟩ => exact False.elim q
  | .cont, ⟨_, _, _, q⟩ => exact False.elim q
theorem fn_okG {P : Program} {w : World} {K : Kx} {mg : Str → Option Value} {base : Heap} {x qual : Str} {st : Stmt} {fa : Addr} {fd : FuncData} {N ps : List Str} {k r f : Nat} {T : Tab} {d : FDef} {lin : Nat → Bool} (F : Fun K.K x qual st fa fd) (SC : FnScope N ps (defScope st))
    (hT : T f = some d) (hp : ps.length = d.np) (hN : N.length = d.ns) (hl : ∀ i, i < d.np → lin i = false)
    (hbody : ∀ (cdv : Value), fd.code = cdv → ∀ (A : Around) (outer : List Env) (s : Shared) (H : Hp) (E : XK), Room r (A.deeper (PyProof.Rows.envOfC qual (defScope st) s.heap.objs.size fa cdv)) → A.guards = some [] →
      DSs (cxOf (L2.CX P w) P w K.K mg base N qual (defScope st) fa cdv A outer s H E) ⟨K, lin, wishE E⟩ (defBody st) (d.code (callN T k))) :
    FnG P w K.K mg base (L2.CX P w) (r + 1) fa fd ps (CallSp K (callN T (k + 1)) f d.np) := by
  refine okG F SC (fun vs H Q E h => ?_) (fun cdv ecd A outer s H vs Q E hr hg h => ?_)
  · obtain ⟨B, j, S, ds, _, rd, hn, _⟩ := h
    rw [rd.length, hn, hp]
  · obtain ⟨B, j, S, ds, R, rd, hn, h⟩ := h
    refine ⟨_, hbody cdv ecd A outer s H E hr hg, ⟨B, H, S.length, j⟩, j, startD N.length ds, S, R.start rd hn ?_ hl, ?_⟩
    · have := congrArg List.length SC.pre
      rw [List.length_take] at this
      omega
    · simp only [callN, hT, runB, hn, if_true] at h
      rw [hN]
      generalize d.code (callN T k) (startD d.ns ds) S = r at h
      match r, h with
      | .ok (.ret v) S', h => exact fun j' u H' R' rd' => h j' u H' R'.relin (rd'.mono le_relin)
      | .ok (.next σ) S', h => exact fun j' σV' H' R' _ => h j' .non H' (Rel.relin (Rel.drop (Z := ⟨K, lin, wishE E⟩) R')) .non
      | .exc y S', h => exact fun j' cls dd _ H' R' rx => h j' cls dd H' R'.relin (rx.mono le_relin)
      | .ok (.brk _) _, h => exact h.elim
      | .ok (.cnt _) _, h => exact h.elim
      | .stuck, h => exact h.elim
section
variable {X : Cx} {Z : Env1} {e : Expr} {pos : Pos}
theorem run_G {CX : CXT} {k : Nat} {f : Addr} {fd : FuncData} {ps : List Str} {sp : Sp} {E : L2.St → XK} {pins : List (Addr × Obj)} {σ : L2.St} {H : Hp} {s : Shared} {Q : VK} {us : List Value} {vs : List V} (F : FnG X.prog X.w X.K X.mg X.base CX k f fd ps sp) (hr : Room k X.A) (hg : X.A.guards = some []) (hb : Binds X.K fd ps []) (hx : PassesAt CX X σ (E σ))
    (I : Inv X pins σ H s) (r : Vals vs us) (h : sp (vs ++ []) H Q (E σ)) : wpAny (model X.prog X.w) X.A (call (.ref f) us) (EP X pins σ Q) X.xe s := by
  rw [List.append_nil] at h
  have hl : us.length = ps.length := by rw [← r.length]; exact F.len _ _ _ _ h
  have hb' := hb s us I.kIn (by rw [List.append_nil]; exact hl)
  rw [List.append_nil] at hb'
  refine wpAny_call (codeAny_mono (F.run X.A X.stack s H ⟨us, []⟩ us vs Q (E σ) hr hg I.env0 hb' r h) fun r s' hq => ?_)
  match r, hq with
  | .error e, hq => exact hx pins H s e s' I hq
  | .ok (.ret u), hq => exact I.after hq
  | .ok .next, hq => exact False.elim hq
  | .ok .brk, hq => exact False.elim hq
  | .ok .cont, hq => exact False.elim hq
theorem de_callG {x : Str} {k np f : Nat} {fa : Addr} {fd : FuncData} {ps : List Str} {cf : Cf} {ms : Ag} {es : List Expr} {p : Pos} (F : FnG X.prog X.w X.K X.mg X.base (L2.CX X.prog X.w) k fa fd ps (CallSp Z.K cf f np)) (hr : Room k X.A) (hgd : X.A.guards = some []) (hg : Gl X x) (hm : X.mg x = some (.ref fa)) (hk : PySem.W.keepIn X.K (.ref fa) = true) (hb : Binds X.K fd ps [])
    (tk : Takes X Z.W) (ha : DA X Z (e :: es) ms) (hdb : (x == ("__debug__" : Str)) = false := by decide) (he : starEach (e :: es) X.env = (false, eval e X.env) :: starEach es X.env := by rfl) (hpl : (backTo pos (starEach es X.env)).any (·.1) = false := by rfl) : DE X Z (.Call (.Name x p) (e :: es) [] pos) (xCall cf f np ms) := by
  refine PE.imp (t := tCallSD (CallSp Z.K cf f np) [] (WE Z.W) (lA Z ms)) ⟨fun pins s σ H Q I h => ?_⟩ fun σV H Q h => lE_call h
  refine wpAny_Call_Name_kw (ld_glob I hg hm ?_ hdb)
  refine PySem.W.callWith_K (h₀ := X.base) I.ok.mod.kin hk (thn (ha.run pos pins s σ H _ I h) fun us s1 ⟨vs, H1, I1, r, q⟩ => ⟨I1.kIn, ?_⟩) he hpl
  exact run_G (E := WE Z.W) F hr hgd hb ((passAt tk) σ) I1 r q
end
end Qi
namespace Qi
open PySem PySem.Spec L2 PyProof.Rows LamX
/-- what is tracked at the law's entry: the script, if it isn't written, and the tables of code objects -/
noncomputable def startH (K : PySem.W.Frag) (T : List Addr) (a : Addr) (vs : List Value) (ns : List Int) : Hp := fun b =>
  if b ∈ T then some (.tbl #[]) else if b = a ∧ K.lookup a = none then some (.frz { cls := .type "list", data := .seq vs.toArray } (.lst (ns.map V.int))) else none
section
variable {K : PySem.W.Frag} {T : List Addr} {a b : Addr} {vs : List Value} {ns : List Int}
theorem startH_t (h : b ∈ T) : startH K T a vs ns b = some (.tbl #[]) := if_pos h
theorem startH_cases (b : Addr) : (b ∈ T ∧ startH K T a vs ns b = some (.tbl #[])) ∨ (b ∉ T ∧ b = a ∧ K.lookup a = none ∧ startH K T a vs ns b = some (.frz { cls := .type "list", data := .seq vs.toArray } (.lst (ns.map V.int)))) ∨ startH K T a vs ns b = none := by
  by_cases h : b ∈ T
  · exact .inl ⟨h, if_pos h⟩
  · by_cases h2 : b = a ∧ K.lookup a = none
    · exact .inr (.inl ⟨h, h2.1, h2.2, by unfold startH; rw [if_neg h, if_pos h2]⟩)
    · exact .inr (.inr (by unfold startH; rw [if_neg h, if_neg h2]))
end
theorem law_runG {P : Program} {w : World} {K : PySem.W.Frag} {mg mb : Str → Option Value} {CX : CXT} {k : Nat} {fa a : Addr} {cs : List (Addr × Addr)} {fd : FuncData} {x : Str} {sp : Sp} {s₁ : Shared} {vs : List Value} {ns : List Int}
    (KX : K.In s₁.heap) (hns : s₁.heap.Ns mainGlobals mg) (hb : s₁.heap.Ns builtinsNs mb) (hbb : ∀ x : Str, x ≠ "__name__" → mb x = bootBuiltins x) (hlim : s₁.heap.NoLimit) (hg : s₁.gens = #[])
    (hT : ∀ p ∈ cs, s₁.heap.get? p.2 = some { cls := .none, data := .fields #[] }) (nT : ∀ p ∈ cs, K.lookup p.2 = none) (C : ∀ p ∈ cs, PySem.W.CodeHd s₁.heap p.1 p.2)
    (hbm : ∃ (bm : Addr) (ob : Obj), mg "__builtins__" = some (.ref bm) ∧ bm ≠ builtinsNs ∧ s₁.heap.get? bm = some ob ∧ ob.cls = .type "module" ∧ ob.dict = some builtinsNs ∧ ob.data = .plain)
    (ha : s₁.heap.get? a = some { cls := .type "list", data := .seq vs.toArray }) (hi : IntsAre vs ns) (hl : ns.length ≤ sizeLine) (hr : Room k callerA)
    (F : ∀ base : Heap, K.In base → base.Ns mainGlobals mg → (∀ p ∈ cs, TabB base mg p.1 p.2) → FnG P w K mg base CX k fa fd [x] sp) (hbind : ∀ (s : Shared) (u : Value), BindsTo s fd ⟨[u], []⟩ [(x, u)])
    (hsp : ∀ H : Hp, (∀ p ∈ cs, H p.2 = some (.tbl #[])) → SqL K H a (ns.map V.int) → sp [.ref a] H (fun v _ => v = .bl true) fun _ _ _ => False)
    (hCX : ∀ H e s', CX [] H s₁ (fun _ _ _ => False) e s' → False) :
    codeAny (model P w) callerA (.call (.ref fa) ⟨[.ref a], []⟩) (fun r s' => r = .ok (.ret (.bool true)) ∧ OldK s₁.heap s'.heap ∧ s'.os = s₁.os ∧ AllBare s'.gens) s₁ := by
  generalize eT : cs.map (·.2) = T
  have inT : ∀ {b}, b ∈ T → ∃ p ∈ cs, p.2 = b := fun {b} h => by rw [← eT] at h; exact List.mem_map.mp h
  have memT : ∀ p ∈ cs, p.2 ∈ T := fun p hp => by rw [← eT]; exact List.mem_map.mpr ⟨p, hp, rfl⟩
  have isT : ∀ {b}, b ∈ T → s₁.heap.get? b = some { cls := .none, data := .fields #[] } := fun {b} h => by
    obtain ⟨p, hp, e⟩ := inT h
    rw [← e]; exact hT p hp
  have aT : a ∉ T := fun z => by
    have q := isT z
    rw [ha] at q
    have z' : Data.seq vs.toArray _ = Data.fields #[] := congrArg Obj.data (Option.some.inj q)
    cases z'
  generalize eH : startH K T a vs ns = H
  have cs3 : ∀ b, (b ∈ T ∧ H b = some (.tbl #[])) ∨ (b ∉ T ∧ b = a ∧ K.lookup a = none ∧ H b = some (.frz { cls := .type "list", data := .seq vs.toArray } (.lst (ns.map V.int)))) ∨ H b = none := fun b => by rw [← eH]; exact startH_cases b
  have hTb : ∀ p ∈ cs, H p.2 = some (.tbl #[]) := fun p hp => by rw [← eH]; exact startH_t (memT p hp)
  have rv := vals_ints hi
  have lenV := hi.length
  have sq : SqL K H a (ns.map V.int) := by
    cases hk : K.lookup a with
    | some o =>
      have e := KX a o hk
      rw [ha] at e
      cases e
      exact .inr ⟨_, vs.toArray, _, hk, rfl, rfl, rfl, by rw [List.size_toArray, lenV]; exact hl, by simpa using rv⟩
    | none =>
      rcases cs3 a with h | ⟨_, _, _, h⟩ | h
      · exact absurd h.1 aT
      · exact .inl (.inr ⟨_, h⟩)
      · rw [← eH] at h
        unfold startH at h
        rw [if_neg aT, if_pos ⟨rfl, hk⟩] at h
        cases h
  have hok : HOk P w H s₁.heap := fun b u e => by
    rcases cs3 b with ⟨h1, h2⟩ | ⟨_, rfl, _, h2⟩ | h2
    · rw [h2] at e; cases e; exact isT h1
    · rw [h2] at e; cases e
      exact ⟨ha, by rw [List.length_map]; exact hl, vs, _, rv, ha⟩
    · rw [h2] at e; cases e
  -- what is no list and no table isn't tracked
  have un1 : ∀ {b : Addr} {o : Obj}, s₁.heap.get? b = some o → (∀ xs n, o.data ≠ .seq xs n) → o.data ≠ .fields #[] → H b = none := fun {b o} e h1 h2 => by
    rcases cs3 b with ⟨h3, _⟩ | ⟨_, rfl, _, _⟩ | h3
    · rw [isT h3] at e; cases e; exact (h2 rfl).elim
    · rw [ha] at e; cases e; exact (h1 _ _ rfl).elim
    · exact h3
  have toB : ∀ {b : Addr} {o : Obj}, s₁.heap.get? b = some o → H b = none → (hidT s₁.heap H).get? b = some o := fun e n => hidT_get e n
  have nsK : ∀ {b : Addr} {m : Str → Option Value}, s₁.heap.Ns b m → (hidT s₁.heap H).Ns b m := fun {b m} ⟨o, es, ep, e, d, r⟩ =>
    ⟨o, es, ep, toB e (un1 e (fun xs n z => by rw [d] at z; cases z) fun z => by rw [d] at z; cases z), d, r⟩
  have hKb : K.In (hidT s₁.heap H) := fun b o e => toB (KX b o e) (by
    rcases cs3 b with ⟨h3, _⟩ | ⟨_, rfl, h4, _⟩ | h3
    · obtain ⟨p, hp, ep⟩ := inT h3
      rw [← ep, nT p hp] at e; cases e
    · rw [h4] at e; cases e
    · exact h3)
  have TB : ∀ p ∈ cs, TabB (hidT s₁.heap H) mg p.1 p.2 := fun p hp => by
    refine ⟨?_, ?_, fun z => ?_⟩
    · obtain ⟨o, us, file, tf, flags, tg, inF, text, tt, e1, r1, r2, r3, rest⟩ := C p hp
      refine ⟨o, us, file, tf, flags, tg, inF, text, tt, toB e1 (un1 e1 (fun xs n z => by rw [r2] at z; cases z) fun z => ?_), r1, r2, r3, rest⟩
      rw [r2] at z
      cases z
      simp at r3
    · obtain ⟨bm, ob, b1, b2, b3, b4, b5, b6⟩ := hbm
      refine ⟨bm, ob, b1, b2, fun q => ?_, fun q => ?_, toB b3 (un1 b3 (fun xs n z => by rw [b6] at z; cases z) fun z => by rw [b6] at z; cases z), b4, b5, b6⟩
      · obtain ⟨o, es, ep, e, hd, _⟩ := hns
        rw [q, e] at b3; cases b3
        rw [hd] at b6; cases b6
      · rw [q, hT p hp] at b3; cases b3
        cases b6
    · obtain ⟨o, es, ep, e, hd, _⟩ := hns
      rw [z, hT p hp] at e; cases e
      cases hd
  have hM : L2.Mod K mg (hidT s₁.heap H) := ⟨hKb, nsK hns, ⟨mb, nsK hb, hbb⟩, let ⟨mc, h1, h2⟩ := hlim; ⟨mc, nsK h1, h2⟩⟩
  have e0 : Env0 P w K mg (hidT s₁.heap H) callerA [] s₁ H := ⟨rfl, hM, fun b o e => of_hidT e, Nat.le_of_eq (hidT_size _ _), trivial, (fun b hb => nomatch hb), hok, .of_eq hg⟩
  refine codeAny_mono ((F _ hKb (nsK hns) TB).run callerA [] s₁ H ⟨[.ref a], []⟩ [.ref a] [.ref a] _ _ hr rfl e0 (hbind s₁ (.ref a)) (.cons rfl .nil) (hsp H hTb sq)) fun r s' h => ?_
  match r, h with
  | .error e, h => exact (hCX H e s' h).elim
  | .ok .next, h => exact False.elim h
  | .ok .brk, h => exact False.elim h
  | .ok .cont, h => exact False.elim h
  | .ok (.ret u), ⟨v, H', os, bare, un, hok', r', q⟩ =>
    obtain rfl : v = .bl true := q
    obtain rfl : u = Value.bool true := r'
    have key : ∀ b o, b ∉ T → s₁.heap.get? b = some o → s'.heap.get? b = some o := fun b o nb e => by
      rcases cs3 b with ⟨h3, _⟩ | ⟨_, _, _, h4⟩ | h3
      · exact absurd h3 nb
      · obtain ⟨e1, _⟩ := hok b _ h4
        obtain ⟨e2, _⟩ := hok' b _ (un.frzs b _ _ h4)
        rw [e] at e1; cases e1
        exact e2
      · exact un.keep b o e h3 (fun z => nomatch z) (fun z => nomatch z)
    have grown : ∀ p ∈ cs, ∃ more : Array Value, s'.heap.get? p.2 = some { cls := .none, data := .fields more } := fun p hp => by
      obtain ⟨more, z⟩ := un.tbls p.2 #[] (hTb p hp)
      exact ⟨_, hok' p.2 _ z⟩
    refine ⟨rfl, ⟨fun b o e => ?_, fun b o e => ?_⟩, os, bare⟩ <;> by_cases hb2 : b ∈ T
    · obtain ⟨p, hp, rfl⟩ := inT hb2
      obtain ⟨more, hm⟩ := grown p hp
      rw [hT p hp] at e
      cases e
      exact .inr (.inl ⟨((C p hp).tab (hT p hp)).isCodeTable, rfl, #[], more, rfl, by rw [Array.empty_append]; exact hm⟩)
    · exact .inl (key b o hb2 e)
    · obtain ⟨p, hp, rfl⟩ := inT hb2
      obtain ⟨more, hm⟩ := grown p hp
      exact ⟨_, hm⟩
    · exact ⟨o, key b o hb2 e⟩
end Qi
namespace Qi
open PySem PySem.Spec L2 PyProof.Rows
def okr : Nat → D → Bool
  | _, .non => true
  | _, .bl _ => true
  | _, .int _ => true
  | _, .str x => PyData.strOk x
  | _, .dic [] => true
  | n + 1, .tup l => l.all (okr n)
  | n + 1, .lst l => l.all (okr n)
  | _, _ => false
theorem okr_tup {n : Nat} {l : List D} (h : okr n (.tup l) = true) : ∃ m, n = m + 1 ∧ l.all (okr m) = true := by
  cases n with
  | zero => simp [okr] at h
  | succ m => exact ⟨m, rfl, by simpa [okr] using h⟩
theorem okr_lst {n : Nat} {l : List D} (h : okr n (.lst l) = true) : ∃ m, n = m + 1 ∧ l.all (okr m) = true := by
  cases n with
  | zero => simp [okr] at h
  | succ m => exact ⟨m, rfl, by simpa [okr] using h⟩
/-- the table of the modules is a dict -/
def modB (K : PySem.W.Frag) : Bool := match K.lookup sysModules with
  | some o => (match o.cls with | .type c => decide (c = "dict") | _ => false)
  | none => false
theorem modB_of {K : PySem.W.Frag} (h : modB K = true) : ∃ o, K.lookup sysModules = some o ∧ o.cls = .type "dict" := by
  unfold modB at h
  split at h
  · rename_i o q
    split at h
    · rename_i c e
      exact ⟨o, q, by rw [e, of_decide_eq_true h]⟩
    · cases h
  · cases h
mutual
inductive DpR (K : PySem.W.Frag) (H : Hp) : V → PyData → Prop
  | non : DpR K H .non .none
  | bl (b : Bool) : DpR K H (.bl b) (.bool b)
  | int (i : Int) : DpR K H (.int i) (.int i)
  | str (x : Str) : DpR K H (.str x) (.str x)
  | lst {a : Addr} {xs : List V} {ds : List PyData} : SqL K H a xs → DpRs K H xs ds → DpR K H (.ref a) (.list ds)
  | tup {a : Addr} {xs : List V} {ds : List PyData} : SqT K H a xs → DpRs K H xs ds → DpR K H (.ref a) (.tuple ds)
  | dic {a : Addr} : H a = some (.dK []) → DpR K H (.ref a) (.dict [])
inductive DpRs (K : PySem.W.Frag) (H : Hp) : List V → List PyData → Prop
  | nil : DpRs K H [] []
  | cons {v : V} {vs : List V} {d : PyData} {ds : List PyData} : DpR K H v d → DpRs K H vs ds → DpRs K H (v :: vs) (d :: ds)
end
mutual
theorem RD.dpr {w : Wo} : ∀ {d : D} {v : V} {n : Nat}, RD w d v → okr n d = true → DpR w.K.K w.H v (toPy d)
  | _, _, n, .dic0 h _, _ => .dic h
  | _, _, _, .non, _ => .non
  | _, _, _, .bl b, _ => .bl b
  | _, _, _, .int i, _ => .int i
  | _, _, _, .str x, _ => .str x
  | _, _, _, .tup h f l r, k => by
    obtain ⟨m, _, k'⟩ := okr_tup k
    exact .tup (.inl h) (RDs.dpr r k')
  | _, _, _, .tupK h l r, k => by
    obtain ⟨m, _, k'⟩ := okr_tup k
    exact .tup (sqT_K h) (RDs.dpr r k')
  | _, _, _, .lst h f l r, k => by
    obtain ⟨m, _, k'⟩ := okr_lst k
    exact .lst (.of h) (RDs.dpr r k')
  | _, _, n, .scr h f l, k => by cases n <;> simp [okr] at k
  | _, _, n, .scrK h l, k => by cases n <;> simp [okr] at k
  | _, _, n, .ref h, k => by cases n <;> simp [okr] at k
  | _, _, n, .obj .., k => by cases n <;> simp [okr] at k
  | _, _, n, .exc1 .., k => by cases n <;> simp [okr] at k
  | _, _, n, .exc0 .., k => by cases n <;> simp [okr] at k
theorem RDs.dpr {w : Wo} : ∀ {ds : List D} {vs : List V} {n : Nat}, RDs w ds vs → ds.all (okr n) = true → DpRs w.K.K w.H vs (toPys ds)
  | _, _, _, .nil, _ => .nil
  | _, _, _, .cons h r, k => by
    rw [List.all_cons, Bool.and_eq_true] at k
    exact .cons (RD.dpr h k.1) (RDs.dpr r k.2)
end
theorem RL.dpr {w : Wo} {d : D} {v : V} {n : Nat} (h : RL w d v) (k : okr n d = true) : DpR w.K.K w.H v (toPy d) := by
  rcases h with h | ⟨a, vs, ds, rfl, rfl, e, _, r⟩
  · exact h.dpr k
  · obtain ⟨m, _, k'⟩ := okr_lst k
    exact .lst (.of e) (r.dpr k')
section
variable {X : Cx} {pins : List (Addr × Obj)} {σ : L2.St} {H : Hp} {s : Shared}
mutual
theorem DpR.reads (hm : modB X.K = true) (I : Inv X pins σ H s) : ∀ (d : PyData) (v : V) (u : Value), DpR X.K H v d → RelV v u → ∃ as, Reads s.heap u d as ∧ sysModules ∉ as
  | .none, _, _, h, r => by
    cases h
    cases r
    exact ⟨_, Reads.none, by simp⟩
  | .bool b, _, _, h, r => by
    cases h
    cases r
    exact ⟨_, Reads.bool b, by simp⟩
  | .int i, _, _, h, r => by
    cases h
    obtain ⟨t, rfl⟩ := r
    exact ⟨_, Reads.int i t, by simp⟩
  | .str x, _, _, h, r => by
    cases h
    obtain ⟨t, rfl⟩ := r
    exact ⟨_, Reads.str x t, by simp⟩
  | .list ds, _, _, h, r => by
    cases h with
    | lst hs ha =>
      cases r
      obtain ⟨its, rv, ⟨o, n, ho, hc, _, hd⟩, _⟩ := I.list hs
      obtain ⟨as, hr, hn⟩ := DpR.readsAll hm I ds _ its ha rv
      refine ⟨_, Reads.list ho hc hd hr, fun z => ?_⟩
      rcases List.mem_cons.mp z with e | z
      · obtain ⟨o', h1, h2⟩ := modB_of hm
        have h3 := I.kIn _ _ h1
        rw [e, ho] at h3
        cases h3
        rw [hc] at h2
        exact absurd h2 (by simp)
      · exact hn z
  | .tuple ds, _, _, h, r => by
    cases h with
    | tup hs ha =>
      cases r
      obtain ⟨its, rv, ⟨o, ho, hc, n, hd⟩, _⟩ := I.tuple hs
      obtain ⟨as, hr, hn⟩ := DpR.readsAll hm I ds _ its ha rv
      exact ⟨_, Reads.tuple ho hc hd hr, hn⟩
  | .dict kvs, _, _, h, r => by
    cases h with
    | dic hs =>
      cases r
      obtain ⟨_, hsm, vs, kv, o, es, ep, ho, hx, hd, _, hp, _⟩ := dk_of I.hok hs
      cases kv
      have he : es.toList = [] := by
        cases q : es.toList with
        | nil => rfl
        | cons x y => rw [q] at hp; cases hp
      refine ⟨_, Reads.dict (as := []) (bs := []) ho hx.1 hd (by rw [he]; exact .nil) (by rw [he]; exact .nil), ?_⟩
      simp only [List.append_nil, List.mem_singleton]
      intro z
      rw [← z] at hsm
      simp at hsm
theorem DpR.readsAll (hm : modB X.K = true) (I : Inv X pins σ H s) : ∀ (ds : List PyData) (vs : List V) (us : List Value), DpRs X.K H vs ds → Vals vs us → ∃ as, ReadsAll s.heap us ds as ∧ sysModules ∉ as
  | [], _, _, h, r => by
    cases h
    cases r
    exact ⟨_, ReadsAll.nil, by simp⟩
  | d :: ds, _, _, h, r => by
    cases h with
    | cons h1 h2 =>
      cases r with
      | cons r1 r2 =>
        obtain ⟨as, q1, n1⟩ := DpR.reads hm I d _ _ h1 r1
        obtain ⟨bs, q2, n2⟩ := DpR.readsAll hm I ds _ _ h2 r2
        exact ⟨_, ReadsAll.cons q1 q2, fun z => by rcases List.mem_append.mp z with z | z; exact n1 z; exact n2 z⟩
end
end
def rReprR (K : PySem.W.Frag) : List V → Hp → VK → Prop := fun xs H Q => ∃ x d, xs = [x] ∧ DpR K H x d ∧ d.showable = true ∧ d.depth ≤ 65 ∧ d.shown.length ≤ sizeLine ∧ Q (.str d.shown) H
theorem cr_reprR {X : Cx} (hm : modB X.K = true) (hg : X.A.guards = some []) (hu : X.A.units + 66 < cLine) : CallR X (.builtin "repr") (rReprR X.K) := by
  intro pins s σ H xs us Q I r h
  obtain ⟨x, d, rfl, hd, hs, hdp, hz, q⟩ := h
  obtain ⟨u, rfl, ru⟩ := r.one
  cases hd with
  | non =>
    cases (show u = Value.none from ru)
    exact PySem.P.repr_of_none ⟨.str _, H, I.tok _, ⟨_, rfl⟩, by simpa [PyData.shown] using q⟩
  | bl b =>
    cases (show u = Value.bool b from ru)
    exact PySem.P.repr_of_bool ⟨.str _, H, I.tok _, ⟨_, rfl⟩, by cases b <;> simpa [PyData.shown] using q⟩
  | int i =>
    obtain ⟨t, rfl⟩ := (show ∃ t, u = Value.int i t from ru)
    have hi : i.natAbs.log2 < 1920 := by simpa [PyData.showable] using hs
    exact PySem.P.repr_of_int hi ⟨.str _, H, I.tok _, ⟨_, rfl⟩, by simpa [PyData.shown] using q⟩
  | str y =>
    obtain ⟨t, rfl⟩ := (show ∃ t, u = Value.str y t from ru)
    have hy : (reprText y).length ≤ sizeLine := by simpa [PyData.shown] using hz
    exact PySem.P.repr_of_str (s := s) ⟨.str _, H, I.tok _, ⟨_, rfl⟩, by simpa [PyData.shown] using q⟩ hy
  | @lst a ds vs h1 h2 =>
    obtain ⟨as, rr, nm⟩ := DpR.reads hm I _ _ u (.lst h1 h2) ru
    cases (show u = Value.ref a from ru)
    refine PySem.repr_of_reads' rr hs (fun _ => nm) hg (by omega) (fun b o e => e) (fun h' t tk hk => ?_) hz
    exact ⟨.str _, H, I.kept hk, ⟨_, rfl⟩, q⟩
  | @tup a ds vs h1 h2 =>
    obtain ⟨as, rr, nm⟩ := DpR.reads hm I _ _ u (.tup h1 h2) ru
    cases (show u = Value.ref a from ru)
    refine PySem.repr_of_reads' rr hs (fun _ => nm) hg (by omega) (fun b o e => e) (fun h' t tk hk => ?_) hz
    exact ⟨.str _, H, I.kept hk, ⟨_, rfl⟩, q⟩
  | @dic a h1 =>
    obtain ⟨as, rr, nm⟩ := DpR.reads hm I _ _ u (.dic h1) ru
    cases (show u = Value.ref a from ru)
    refine PySem.repr_of_reads' rr hs (fun _ => nm) hg (by omega) (fun b o e => e) (fun h' t tk hk => ?_) hz
    exact ⟨.str _, H, I.kept hk, ⟨_, rfl⟩, q⟩
mutual
theorem depth_toPy : ∀ {n : Nat} {d : D}, okr n d = true → (toPy d).depth ≤ n + 1
  | n, .non, _ => by simp [toPy, PyData.depth]
  | n, .bl _, _ => by simp [toPy, PyData.depth]
  | n, .int _, _ => by simp [toPy, PyData.depth]
  | n, .str x, h => by simp [toPy, PyData.depth]
  | n, .tup l, h => by
    obtain ⟨m, rfl, k⟩ := okr_tup h
    have h2 := depth_toPys k
    simp only [toPy, PyData.depth]
    omega
  | n, .lst l, h => by
    obtain ⟨m, rfl, k⟩ := okr_lst h
    have h2 := depth_toPys k
    simp only [toPy, PyData.depth]
    omega
  | n, .dic [], h => by simp [toPy, PyData.depth, PyData.depthKv]
  | n, .dic (_ :: _), h => by cases n <;> simp [okr] at h
  | n, .ref _, h => by cases n <;> simp [okr] at h
  | n, .obj _ _, h => by cases n <;> simp [okr] at h
  | n, .exc _ _, h => by cases n <;> simp [okr] at h
  | n, .clo _ _, h => by cases n <;> simp [okr] at h
  | n, .scr _, h => by cases n <;> simp [okr] at h
theorem depth_toPys : ∀ {n : Nat} {l : List D}, l.all (okr n) = true → PyData.depthAll (toPys l) ≤ n + 1
  | n, [], _ => by simp [toPys, PyData.depthAll]
  | n, d :: r, h => by
    rw [List.all_cons, Bool.and_eq_true] at h
    have h2 := depth_toPy h.1
    have h4 := depth_toPys h.2
    simp only [toPys, PyData.depthAll]
    omega
end
/-- the text that repr tells -/
def reprS (d : D) : Str := (toPy d).shown
def oRepr (d : D) (S : Sto) : Res D := if (okr 64 d && ((toPy d).showable && szOk (toPy d).shown.length)) = true then .ok (.str (reprS d)) S else .stuck
theorem pr_repr {K : PySem.W.Frag} : Pr1 K (r1 (rReprR K)) oRepr := by
  intro Z g j σ S σV H x d Q hK R hd h
  unfold oRepr at h
  split at h
  · rename_i hz
    simp only [Bool.and_eq_true] at hz
    obtain ⟨h1, h2, h4⟩ := hz
    subst hK
    exact ⟨x, toPy d, rfl, hd.dpr h1, h2, depth_toPy h1, szOk_le h4, h j _ H R Stp.refl (.str _)⟩
  · exact h.elim
end Qi
namespace Qi
open PySem PySem.Spec L2 PyProof.Rows
variable {X : Cx} {Z : Env1} {a b c e : Expr} {ma mb mc : Ex} {pos : Pos}
def cAug (f : Int → Int → Int) (i : Nat) (m : Ex) : Co := fun σ S => match σ[i]? with
  | some (some (.int x)) => (m σ S).bind fun d S1 => (match d with
    | .int y => .ok (.next (σ.set i (some (.int (f x y))))) S1
    | _ => .stuck)
  | _ => .stuck
theorem ds_aug {f : Int → Int → Int} {i : Nat} {st : Stmt} (hp : PS X st (tAug i (lE Z ma) (ipI f))) (hl : Z.lin i = false) : DS X Z st (cAug f i ma) := PS.imp hp fun D σV H => by
  rintro ⟨g, j, σ, S, R, h⟩
  unfold cAug at h
  cases e1 : σ[i]? with
  | none => rw [e1] at h; exact h.elim
  | some o =>
    cases o with
    | none => rw [e1] at h; exact h.elim
    | some d =>
      rw [e1] at h
      cases d with
      | int x =>
        obtain ⟨v, ev, h1, h2⟩ := R.slots i _ e1
        refine ⟨v, ev, g, j, σ, S, R, OutC.bind (fun d S1 j1 u H1 R1 s1 rd h3 => ?_) h⟩
        cases d with
        | int y => exact ⟨x, y, (h1 hl).of_int, rd.of_int, h3 j1 _ H1 (R1.set hl (.int _)) (le_set hl)⟩
        | _ => exact h3.elim
      | _ => exact h.elim
def xCh (f f' : D → D → Sto → Res D) (ma mb mc : Ex) : Ex := fun σ S => (ma σ S).bind fun x S1 => (mb σ S1).bind fun y S2 => (f (rsv S2 x) (rsv S2 y) S2).bind fun z S3 => match z with
  | .bl true => (mc σ S3).bind fun u S4 => f' (rsv S4 y) (rsv S4 u) S4
  | .bl false => .ok (.bl false) S3
  | _ => .stuck
theorem lE_chain {K : PySem.W.Frag} {r r' : R2} {f f' : D → D → Sto → Res D} (pr : Pr2 K r f) (pr' : Pr2 K r' f') (hK : Z.K.K = K) {σV : L2.St} {H : Hp} {Q : VK} (h : lE Z (xCh f f' ma mb mc) σV H Q) : tChain r r' (lE Z ma) (lE Z mb) (lE Z mc) σV H Q := by
  obtain ⟨g, j, σ, S, R, h⟩ := h
  refine ⟨g, j, σ, S, R, OutR.bind (fun x S1 j1 v H1 R1 s1 rx h1 => ?_) h⟩
  refine ⟨g, j1, σ, S1, R1, OutR.bind (fun y S2 j2 u H2 R2 s2 ry h2 => ?_) h1⟩
  have rx2 : RB (wz Z g j2 σ S2 σV H2) x v := .inl (rx.mono s2.wle)
  have ry2 : RB (wz Z g j2 σ S2 σV H2) y u := .inl ry
  refine pr Z g j2 σ S2 σV H2 v u _ _ _ hK R2 (rx2.rsv R2) (ry2.rsv R2) ?_
  refine OutR.bind (fun z S3 j3 zv H3 R3 s3 rz h3 => ?_) h2
  cases z with
  | bl k =>
    refine ⟨k, rz.of_bl, ?_⟩
    cases k with
    | false => rw [if_neg Bool.false_ne_true]; exact h3 j3 _ H3 R3 Stp.refl (.bl _)
    | true =>
      rw [if_pos rfl]
      refine ⟨g, j3, σ, S3, R3, OutR.bind (fun w S4 j4 wv H4 R4 s4 rw4 h4 => ?_) h3⟩
      have ry4 : RB (wz Z g j4 σ S4 σV H4) y u := .inl ((ry.mono s3.wle).mono s4.wle)
      have rw5 : RB (wz Z g j4 σ S4 σV H4) w wv := .inl rw4
      exact pr' Z g j4 σ S4 σV H4 u wv _ _ Q hK R4 (ry4.rsv R4) (rw5.rsv R4) h4
  | _ => exact h3.elim
theorem de_chain {op op' : CmpOp} {r r' : R2} {f f' : D → D → Sto → Res D} (pr : Pr2 X.K r f) (pr' : Pr2 X.K r' f') (hp : PE X (.Compare a [op, op'] [b, c] pos) (tChain r r' (lE Z ma) (lE Z mb) (lE Z mc))) (hK : Z.K.K = X.K := by rfl) :
    DE X Z (.Compare a [op, op'] [b, c] pos) (xCh f f' ma mb mc) := PE.imp hp fun _ _ _ q => lE_chain pr pr' hK q
theorem dt_chain {op op' : CmpOp} {r r' : R2} {f f' : D → D → Sto → Res D} (pr : Pr2 X.K r f) (pr' : Pr2 X.K r' f') (hp : PT X (.Compare a [op, op'] [b, c] pos) (tTest (tChain r r' (lE Z ma) (lE Z mb) (lE Z mc)))) (hK : Z.K.K = X.K := by rfl) :
    DT X Z (.Compare a [op, op'] [b, c] pos) (tE (xCh f f' ma mb mc)) := PT.imp hp fun _ _ _ q => lE_chain pr pr' hK (lT_of q)
def xRgL (mi : Ag) : Ex := fun σ S => (mi σ S).bind fun ds S1 => .ok (.lst ds) S1
def xRgT (mi : Ag) : Ex := fun σ S => (mi σ S).bind fun ds S1 => .ok (.tup ds) S1
theorem rds_rg {w : Wo} (lo : Int) (n : Nat) : RDs w (rngD lo n) (rgV lo (lo + n)) := by
  unfold rngD rgV
  have e : (lo + (n : Int) - lo).toNat = n := by omega
  rw [e]
  generalize List.range n = l
  induction l with
  | nil => exact .nil
  | cons i r ih => exact .cons (.int _) ih
theorem rgV_eq (lo hi : Int) : rgV lo hi = rgV lo (lo + ((hi - lo).toNat : Nat)) := by
  unfold rgV
  rw [show (lo + ((hi - lo).toNat : Int) - lo).toNat = (hi - lo).toNat by omega]
theorem rngD_len (lo : Int) (n : Nat) : (rngD lo n).length = n := by unfold rngD; rw [List.length_map, List.length_range]
theorem df_listRg1 (hp : PE X e (tLstRg (tRg1 (lE Z ma)))) : DF X Z e (xRgL (mRg1 ma)) := PE.imp hp fun σV H Q => by
  rintro ⟨g, j, σ, S, R, h⟩
  unfold xRgL mRg1 at h
  refine ⟨g, j, σ, S, R, ?_⟩
  generalize ma σ S = r at h
  cases r with
  | ok d S1 =>
    intro j1 v H1 R1 s1 rd
    cases d with
    | int n =>
      by_cases hz : (decide (-1000000000 ≤ n) && decide (n ≤ 16777216)) = true
      · simp only [Res.bind, if_pos hz] at h
        rw [Bool.and_eq_true] at hz
        have z1 := of_decide_eq_true hz.1
        have z2 := of_decide_eq_true hz.2
        have h1 : OutF Z g j1 σ S1 σV H1 Q (.ok (.lst (rngD 0 n.toNat)) S1) := OutF.step s1 s1.back h
        refine ⟨n, rd.of_int, ⟨by omega, by omega, by omega, by omega, by omega⟩, fun q hq => ?_⟩
        rw [rgV_eq]
        refine out_lstF R1 ?_ ?_ h1 hq
        · rw [rngD_len, sizeLine_eq]; omega
        · have := rds_rg (w := wz Z g j1 σ S1 σV H1) 0 n.toNat
          rw [show (n - 0).toNat = n.toNat by omega]
          exact this
      · simp only [Res.bind, if_neg hz] at h
        exact h.elim
    | _ => exact h.elim
  | exc x S1 => exact h
  | stuck => exact h
theorem de_tupRg1 (hp : PE X e (tTupRg (tRg1 (lE Z ma)))) : DE X Z e (xRgT (mRg1 ma)) := PE.imp hp fun σV H Q => by
  rintro ⟨g, j, σ, S, R, h⟩
  unfold xRgT mRg1 at h
  refine ⟨g, j, σ, S, R, ?_⟩
  generalize ma σ S = r at h
  cases r with
  | ok d S1 =>
    intro j1 v H1 R1 s1 rd
    cases d with
    | int n =>
      by_cases hz : (decide (-1000000000 ≤ n) && decide (n ≤ 16777216)) = true
      · simp only [Res.bind, if_pos hz] at h
        rw [Bool.and_eq_true] at hz
        have z1 := of_decide_eq_true hz.1
        have z2 := of_decide_eq_true hz.2
        have h1 : OutR Z g j1 σ S1 σV H1 RD Q (.ok (.tup (rngD 0 n.toNat)) S1) := OutR.step s1 h
        refine ⟨n, rd.of_int, ⟨by omega, by omega, by omega, by omega, by omega⟩, fun q hq => ?_⟩
        rw [rgV_eq]
        refine out_tup R1 ?_ ?_ h1 hq
        · rw [rngD_len, sizeLine_eq]; omega
        · have := rds_rg (w := wz Z g j1 σ S1 σV H1) 0 n.toNat
          rw [show (n - 0).toNat = n.toNat by omega]
          exact this
      · simp only [Res.bind, if_neg hz] at h
        exact h.elim
    | _ => exact h.elim
  | exc x S1 => exact h
  | stuck => exact h
theorem df_listRg2 (hp : PE X e (tLstRg (tRg2 (lE Z ma) (lE Z mb)))) : DF X Z e (xRgL (mRg2 ma mb)) := PE.imp hp fun σV H Q => by
  rintro ⟨g, j, σ, S, R, h⟩
  unfold xRgL mRg2 at h
  refine ⟨g, j, σ, S, R, ?_⟩
  generalize ma σ S = r at h
  cases r with
  | ok d S1 =>
    intro j1 v H1 R1 s1 rd
    refine ⟨g, j1, σ, S1, R1, ?_⟩
    dsimp only [Res.bind] at h
    have h := OutF.step s1 s1.back h
    generalize mb σ S1 = r2 at h
    cases r2 with
    | ok e S2 =>
      intro j2 u H2 R2 s2 re
      cases d with
      | int lo =>
        cases e with
        | int hi =>
          by_cases hz : (decide (-1000000000 ≤ lo) && decide (lo ≤ 16777216) && decide (-1000000000 ≤ hi) && decide (hi ≤ 16777216) && decide (hi - lo ≤ 16777216)) = true
          · simp only [Res.bind, if_pos hz] at h
            simp only [Bool.and_eq_true, decide_eq_true_eq] at hz
            have h1 : OutF Z g j2 σ S2 σV H2 Q (.ok (.lst (rngD lo (hi - lo).toNat)) S2) := OutF.step s2 s2.back h
            refine ⟨lo, hi, rd.of_int, re.of_int, ⟨by omega, by omega, by omega, by omega, by omega⟩, fun q hq => ?_⟩
            rw [rgV_eq]
            refine out_lstF R2 ?_ (rds_rg _ _) h1 hq
            rw [rngD_len, sizeLine_eq]; omega
          · simp only [Res.bind, if_neg hz] at h
            exact h.elim
        | _ => exact h.elim
      | _ => exact h.elim
    | exc x S2 => exact h
    | stuck => exact h
  | exc x S1 => exact h
  | stuck => exact h
def aS (a : Ex) (r : Ag) : Ag := fun σ S => (a σ S).bind fun x S1 => match seqD (rsv S1 x) with
  | some l => (r σ S1).bind fun xs S2 => .ok (l ++ xs) S2
  | none => .stuck
theorem da_star {es : List Expr} {r : Ag} {p : Pos} (ha : DB X Z e ma) (hr : DA X Z es r) (hs : starEach (.Starred e p :: es) X.env = (true, eval e X.env) :: starEach es X.env := by rfl) (hK : Z.K.K = X.K := by rfl) : DA X Z (.Starred e p :: es) (aS ma r) := PA.imp (StX.pa_star ha hr hs) fun σV H Q => by
  rintro ⟨g, j, σ, S, R, h⟩
  refine ⟨g, j, σ, S, R, OutR.bind (fun d S1 j1 v H1 R1 s1 rd h1 => ?_) h⟩
  have rd := rd.rsv R1
  generalize rsv S1 d = d at rd h1
  cases d with
  | lst l =>
    obtain ⟨q, vs, rfl, hs, rr⟩ := rd.lst
    refine ⟨q, vs, rfl, .inr (.of hs), g, j1, σ, S1, R1, OutR.bind (fun ds S2 j2 us H2 R2 s2 rds h2 => ?_) h1⟩
    exact h2 j2 _ H2 R2 Stp.refl ((rr.mono s2.wle).append rds)
  | tup l =>
    obtain ⟨q, vs, rfl, hs, rr⟩ := (rd.rd (by intro _ z; cases z)).of_tup
    refine ⟨q, vs, rfl, .inl (by rw [← hK]; exact hs), g, j1, σ, S1, R1, OutR.bind (fun ds S2 j2 us H2 R2 s2 rds h2 => ?_) h1⟩
    exact h2 j2 _ H2 R2 Stp.refl ((rr.mono s2.wle).append rds)
  | _ => exact h1.elim
/-- a tuple display with starred parts -/
def oTupS (ds : List D) (S : Sto) : Res D := if szOk ds.length = true then .ok (.tup ds) S else .stuck
theorem de_tupS {es : List Expr} {k : Nat} {ms : Ag} (h : DA X Z es ms) : DE X Z (.Tuple es k pos) (xL oTupS ms) := PE.imp (pe_tup h) fun σV H Q => by
  rintro ⟨g, j, σ, S, R, h⟩
  refine ⟨g, j, σ, S, R, OutR.bind (fun ds S1 j1 vs H1 R1 s1 rds h1 => ?_) h⟩
  unfold oTupS at h1
  split at h1
  · rename_i hz
    have hl := szOk_le hz
    refine ⟨by rw [rds.length]; exact hl, fun p hp => out_tup R1 hl rds h1 hp⟩
  · exact h1.elim
theorem dts_nil : PTs X [] (lT Z tT) := ⟨fun pins s σ H Q I h => pts_nil.run pins s σ H Q I (by
  obtain ⟨g, j, σ, S, R, h⟩ := h
  exact h j _ H R Stp.refl rfl)⟩
theorem dts_one {t : Ts} (h : DT X Z c t) : PTs X [c] (lT Z t) := pts_one h
def cStuck : Co := fun _ _ => .stuck
theorem ds_stuck {st : Stmt} : DS X Z st cStuck := PS.imp ps_never fun D σV H => by
  rintro ⟨g, j, σ, S, R, h⟩
  exact h
def oIsLT (d : D) (S : Sto) : Res D := match isT .list d, isT .tuple d with
  | some x, some y => .ok (.bl (x || y)) S
  | _, _ => .stuck
theorem tyx_laid {K : PySem.W.Frag} {H : Hp} {x : V} {t : Value} {T : Addr} {o : HO} (h : TyX K H x t) (hT : H T = none) : TyX K (upd H T o) x t := by
  have k : ∀ {a u}, H a = some u → upd H T o a = some u := fun {a u} e => by rw [upd_ne (ne_of_none e hT)]; exact e
  cases h with
  | base b =>
    cases b with
    | non => exact .base .non
    | bl y => exact .base (.bl y)
    | int i => exact .base (.int i)
    | str y => exact .base (.str y)
    | flt y => exact .base (.flt y)
    | lst e => exact .base (.lst (k e))
    | frz e => exact .base (.frz (k e))
    | tup e => exact .base (.tup (k e))
    | dK e => exact .base (.dK (k e))
    | dT e => exact .base (.dT (k e))
    | ins e cl ha hn htk hm => exact .base (.ins (k e) cl ha hn htk hm)
  | byt b => exact .byt b
  | set e => exact .set (k e)
  | kList e c => exact .kList e c
  | kTuple e c => exact .kTuple e c
  | kDict e c => exact .kDict e c
  | fTuple e => exact .fTuple (k e)
  | fDict e => exact .fDict (k e)
theorem tyx_of2 {w : Wo} {d : D} {v : V} {x y : Bool} (h : RL w d v) (hx : isT .list d = some x) (hy : isT .tuple d = some y) : ∃ u, TyX w.K.K w.H v u ∧ PySem.W.kitOne w.K.K u (.type "list") = some x ∧ PySem.W.kitOne w.K.K u (.type "tuple") = some y := by
  obtain ⟨a1, a2, a3, a4, a5, a6, a7⟩ := kit_ty (K := w.K.K) .list
  obtain ⟨k1, k2, k3, k4, k5, k6, k7⟩ := kit_ty (K := w.K.K) .tuple
  cases d with
  | non => rw [(h.rd (by intro _ z; cases z)).of_non]; cases hx; cases hy; exact ⟨_, .base .non, a1, k1⟩
  | bl c => rw [(h.rd (by intro _ z; cases z)).of_bl]; cases hx; cases hy; exact ⟨_, .base (.bl c), a2, k2⟩
  | int c => rw [(h.rd (by intro _ z; cases z)).of_int]; cases hx; cases hy; exact ⟨_, .base (.int c), a3, k3⟩
  | str c => rw [(h.rd (by intro _ z; cases z)).of_str]; cases hx; cases hy; exact ⟨_, .base (.str c), a4, k4⟩
  | tup l =>
    cases hx
    cases hy
    have h3 := h.rd (by intro _ z; cases z)
    clear h
    cases h3 with
    | tup h4 f hl r =>
      rcases h4 with h4 | ⟨o, h4⟩
      · exact ⟨_, .base (.tup h4), a5, k5⟩
      · exact ⟨_, .fTuple h4, a5, k5⟩
    | tupK h4 hl r =>
      rcases h4 with (h4 | ⟨_, h4⟩) | ⟨o, its, n, h1, h2, _⟩
      · cases h4
      · cases h4
      · exact ⟨_, .kTuple h1 h2, a5, k5⟩
  | lst l =>
    cases hx
    cases hy
    obtain ⟨p, vs, rfl, hs, r⟩ := h.lst
    exact ⟨_, .base (.lst hs), a6, k6⟩
  | dic l =>
    cases hx
    cases hy
    have h3 := h.rd (by intro _ z; cases z)
    clear h
    cases h3 with
    | dic0 h4 f => exact ⟨_, .base (.dK h4), a7, k7⟩
  | _ => cases hx
/-- {} -/
def xEmp : Ex := fun _ S => .ok (.dic []) S
theorem de_emp {pos : Pos} : DE X Z (.Dict [] [] pos) xEmp := PE.imp pe_dnewK fun σV H Q => by
  rintro ⟨g, j, σ, S, R, h⟩ p hp
  refine h j _ _ (R.alloc hp) (Stp.alloc hp) (.dic0 upd_same fun z => ?_)
  obtain ⟨o, eo⟩ := R.trk p z
  rw [hp] at eo; cases eo
theorem de_isLT {p p1 p2 p3 : Pos} {k : Nat} (hg : Gl X "isinstance") (hm : X.mg "isinstance" = none) (hb : bootBuiltins "isinstance" = some (.builtin "isinstance")) (ha : DB X Z e ma) (h1 : PE X (.Name "list" p1) (tC (.ty "list"))) (h2 : PE X (.Name "tuple" p2) (tC (.ty "tuple")))
    (hK : Z.K.K = X.K := by rfl) (hs : starEach [e, .Tuple [.Name "list" p1, .Name "tuple" p2] k p3] X.env = (false, eval e X.env) :: starEach [.Tuple [.Name "list" p1, .Name "tuple" p2] k p3] X.env := by rfl)
    (hs2 : starEach [.Tuple [.Name "list" p1, .Name "tuple" p2] k p3] X.env = (false, eval (.Tuple [.Name "list" p1, .Name "tuple" p2] k p3) X.env) :: starEach [] X.env := by rfl) (hs3 : starEach [.Name "list" p1, .Name "tuple" p2] X.env = (false, eval (.Name "list" p1) X.env) :: starEach [.Name "tuple" p2] X.env := by rfl)
    (hs4 : starEach [.Name "tuple" p2] X.env = (false, eval (.Name "tuple" p2) X.env) :: starEach [] X.env := by rfl) (hpl : (backTo pos (starEach [.Tuple [.Name "list" p1, .Name "tuple" p2] k p3] X.env)).any (·.1) = false := by rfl) :
    DE X Z (.Call (.Name "isinstance" p) [e, .Tuple [.Name "list" p1, .Name "tuple" p2] k p3] [] pos) (x1 oIsLT ma) :=
  PE.imp (pe_callB call_isiT hg hm hb (pa_cons ha (pa_cons (pe_tup (pa_cons h1 (pa_cons h2 pa_nil hs4) hs3)) pa_nil hs2) hs) (by decide) (by decide) hs hpl) fun σV H Q q => by
    obtain ⟨g, j, σ, S, R, h⟩ := q
    refine ⟨g, j, σ, S, R, OutR.bind (fun d S1 j1 v H1 R1 s1 rd h1 => ?_) h⟩
    have rd := rd.rsv R1
    generalize rsv S1 d = d at rd h1
    refine ⟨by show 2 ≤ sizeLine; decide, fun T hT => ?_⟩
    unfold oIsLT at h1
    cases q1 : isT .list d with
    | none => rw [q1] at h1; exact h1.elim
    | some x =>
      cases q2 : isT .tuple d with
      | none => rw [q1, q2] at h1; exact h1.elim
      | some y =>
        rw [q1, q2] at h1
        obtain ⟨u, t1, t2, t3⟩ := tyx_of2 rd q1 q2
        rw [hK] at t1 t2 t3
        refine ⟨v, T, [.ty "list", .ty "tuple"], u, [.type "list", .type "tuple"], x || y, rfl, upd_same, .cons (.ty _) (.cons (.ty _) .nil), tyx_laid t1 hT, ?_, ?_⟩
        · refine kitAny_cons t2 (fun z => kitAny_cons t3 (fun z2 => by rw [kitAny_nil, z, z2]; rfl) fun z2 => by rw [z2, Bool.or_true]) fun z => by rw [z, Bool.true_or]
        · exact h1 j1 _ _ (R1.alloc hT) (Stp.alloc hT) (.bl _)
end Qi
namespace Qi
open PySem PySem.Spec L2 PyProof.Rows
variable {X : Cx} {Z : Env1} {a b c e : Expr} {ma mb mc : Ex} {pos : Pos}
theorem RD.of_obj {w : Wo} {c : Nat} {ds : List D} {v : V} (h : RD w (.obj c ds) v) : ∃ a dx vs, v = .ref a ∧ SlX.Slt w.H a (w.K.cl c) dx (vs.map some) ∧ RDs w ds vs := by
  cases h with
  | obj h1 h2 f1 f2 r => exact ⟨_, _, _, rfl, .inr ⟨h1, h2⟩, r⟩
def oFld (c i : Nat) (d : D) (S : Sto) : Res D := match d with
  | .obj c' fs => if c' = c then (match fs[i]? with
    | some x => .ok x S
    | none => .stuck) else .stuck
  | _ => .stuck
def xFld (c i : Nat) (m : Ex) : Ex := fun σ S => (m σ S).bind fun d S1 => oFld c i d S1
theorem lE_fld {cn i : Nat} {f : Str} {p : Addr} (sc : SlX.SCls X.K (Z.K.cl cn)) (t : SlX.Slot1 X.K (Z.K.cl cn) f p i) {σV : L2.St} {H : Hp} {Q : VK} (h : lE Z (xFld cn i ma) σV H Q) : SlX.tSl X.K (lE Z ma) f σV H Q := by
  obtain ⟨g, j, σ, S, R, h⟩ := h
  refine ⟨g, j, σ, S, R, OutR.bind (fun d S1 j1 v H1 R1 s1 rd h1 => ?_) h⟩
  cases d with
  | obj c' fs =>
    simp only [oFld] at h1
    by_cases hc : c' = cn
    · subst hc
      rw [if_pos rfl] at h1
      cases q : fs[i]? with
      | none => rw [q] at h1; exact h1.elim
      | some x =>
        rw [q] at h1
        obtain ⟨a, dx, vs, rfl, hs, r⟩ := rd.of_obj
        obtain ⟨u, eu, ru⟩ := r.get q
        exact ⟨a, _, dx, p, vs.map some, i, u, rfl, hs, sc, t, by rw [List.getElem?_map, eu]; rfl, h1 j1 u H1 R1 Stp.refl ru⟩
    · rw [if_neg hc] at h1
      exact h1.elim
  | _ => exact h1.elim
/-- o.f, f a slot -/
theorem de_fld {cn i : Nat} {f : Str} {p : Addr} (sc : SlX.SCls X.K (Z.K.cl cn)) (t : SlX.Slot1 X.K (Z.K.cl cn) f p i) (h : DE X Z e ma) (hb : attributeBase e f X.env (eval e X.env) = eval e X.env := by rfl) : DE X Z (.Attribute e f pos) (xFld cn i ma) :=
  PE.imp (SlX.pe_sl h hb) fun _ _ _ q => lE_fld sc t q
structure IsC (K : PySem.W.Frag) (C : Addr) : Prop where
  sc : SlX.SCls K C
  si : SlX.SIsi K C
  me : PySem.W.kitOne K (.ref C) (.ref C) = some true
  no : PySem.W.kitOne K (.type "NoneType") (.ref C) = some false
  bl : PySem.W.kitOne K (.type "bool") (.ref C) = some false
  int : PySem.W.kitOne K (.type "int") (.ref C) = some false
  str : PySem.W.kitOne K (.type "str") (.ref C) = some false
  tup : PySem.W.kitOne K (.type "tuple") (.ref C) = some false
  lst : PySem.W.kitOne K (.type "list") (.ref C) = some false
  dic : PySem.W.kitOne K (.type "dict") (.ref C) = some false
def oIsO (cn : Nat) (d : D) (S : Sto) : Res D := match d with
  | .obj c' _ => if c' = cn then .ok (.bl true) S else .stuck
  | .non => .ok (.bl false) S
  | .bl _ => .ok (.bl false) S
  | .int _ => .ok (.bl false) S
  | .str _ => .ok (.bl false) S
  | .tup _ => .ok (.bl false) S
  | .lst _ => .ok (.bl false) S
  | .dic _ => .ok (.bl false) S
  | .ref n => match S[n]? with
    | some (.dic _) => .ok (.bl false) S
    | _ => .stuck
  | _ => .stuck
theorem CallR.or {f : Value} {r r' : List V → Hp → VK → Prop} (h : CallR X f r) (h' : CallR X f r') : CallR X f (fun xs H Q => r xs H Q ∨ r' xs H Q) := by
  intro pins s σ H xs us Q I rv q
  rcases q with q | q
  · exact h pins s σ H xs us Q I rv q
  · exact h' pins s σ H xs us Q I rv q
def xIsO (cn : Nat) (m : Ex) : Ex := fun σ S => (m σ S).bind fun d S1 => oIsO cn (rsv S1 d) S1
theorem de_isO {cn : Nat} {y : Str} {p p2 : Pos} (I : IsC X.K (Z.K.cl cn)) (hg : Gl X "isinstance") (hm : X.mg "isinstance" = none) (hb : bootBuiltins "isinstance" = some (.builtin "isinstance")) (ha : DB X Z e ma) (hy : PE X (.Name y p2) (tC (.ref (Z.K.cl cn))))
    (he : starEach [e, .Name y p2] X.env = (false, eval e X.env) :: starEach [.Name y p2] X.env := by rfl) (he2 : starEach [.Name y p2] X.env = (false, eval (.Name y p2) X.env) :: starEach [] X.env := by rfl) (hpl : (backTo pos (starEach [.Name y p2] X.env)).any (·.1) = false := by rfl) (hK : Z.K.K = X.K := by rfl) :
    DE X Z (.Call (.Name "isinstance" p) [e, .Name y p2] [] pos) (xIsO cn ma) :=
  PE.imp (pe_callB (CallR.or call_isi (SlX.call_isiSl (.ref (Z.K.cl cn)))) hg hm hb (pa_cons ha (pa_cons hy pa_nil he2) he) (by decide) (by decide) he hpl) fun σV H Q q => by
    obtain ⟨g, j, σ, S, R, h⟩ := q
    refine ⟨g, j, σ, S, R, OutR.bind (fun d S1 j1 v H1 R1 s1 rd h1 => ?_) h⟩
    have rd := rd.rsv R1
    generalize rsv S1 d = d at rd h1
    have fin : ∀ (u : Value), TyX X.K H1 v u → PySem.W.kitOne X.K u (.ref (Z.K.cl cn)) = some false → Q (.bl false) H1 → rIsi X.K [v, .ref (Z.K.cl cn)] H1 Q := fun u t k q => ⟨v, _, u, _, false, rfl, .own _, t, k, q⟩
    have yes : Q (.bl false) H1 → (∀ ds, d ≠ .obj cn ds) → True := fun _ _ => trivial
    cases d with
    | obj c' fs =>
      simp only [oIsO] at h1
      by_cases hc : c' = cn
      · subst hc
        rw [if_pos rfl] at h1
        obtain ⟨a, dx, vs, rfl, hs, r⟩ := (rd.rd (by intro _ z; cases z)).of_obj
        exact .inr ⟨a, _, dx, vs.map some, _, true, rfl, rfl, fun w hw => hw, hs, I.sc, I.si, I.me, h1 j1 _ H1 R1 Stp.refl (.bl _)⟩
      · rw [if_neg hc] at h1; exact h1.elim
    | non => rw [(rd.rd (by intro _ z; cases z)).of_non] at fin ⊢; exact .inl (fin _ (.base .non) I.no (h1 j1 _ H1 R1 Stp.refl (.bl _)))
    | bl k => rw [(rd.rd (by intro _ z; cases z)).of_bl] at fin ⊢; exact .inl (fin _ (.base (.bl k)) I.bl (h1 j1 _ H1 R1 Stp.refl (.bl _)))
    | int k => rw [(rd.rd (by intro _ z; cases z)).of_int] at fin ⊢; exact .inl (fin _ (.base (.int k)) I.int (h1 j1 _ H1 R1 Stp.refl (.bl _)))
    | str k => rw [(rd.rd (by intro _ z; cases z)).of_str] at fin ⊢; exact .inl (fin _ (.base (.str k)) I.str (h1 j1 _ H1 R1 Stp.refl (.bl _)))
    | tup l =>
      obtain ⟨u, t1, _⟩ := tyx_of .tuple rd (b := true) rfl
      have h3 := rd.rd (by intro _ z; cases z)
      refine .inl ?_
      have q := h1 j1 (.bl false) H1 R1 Stp.refl (.bl _)
      clear rd
      cases h3 with
      | tup h4 f hl r =>
        rcases h4 with h4 | ⟨o, h4⟩
        · exact fin _ (.base (.tup h4)) I.tup q
        · exact fin _ (.fTuple h4) I.tup q
      | tupK h4 hl r =>
        rcases h4 with (h4 | ⟨_, h4⟩) | ⟨o, its, n, h5, h6, _⟩
        · cases h4
        · cases h4
        · rw [hK] at h5
          exact fin _ (.kTuple h5 h6) I.tup q
    | lst l =>
      obtain ⟨p, vs, rfl, hs, r⟩ := rd.lst
      exact .inl (fin _ (.base (.lst hs)) I.lst (h1 j1 _ H1 R1 Stp.refl (.bl _)))
    | dic l =>
      have h3 := rd.rd (by intro _ z; cases z)
      have q := h1 j1 (.bl false) H1 R1 Stp.refl (.bl _)
      clear rd
      cases h3 with
      | dic0 h4 f => exact .inl (fin _ (.base (.dK h4)) I.dic q)
    | ref n =>
      obtain ⟨rfl, hn⟩ := (rd.rd (by intro _ z; cases z)).of_ref
      simp only [oIsO] at h1
      cases q : S1[n]? with
      | none => rw [q] at h1; exact h1.elim
      | some cc =>
        rw [q] at h1
        cases cc with
        | dic l =>
          have hc := R1.cells n _ q
          cases hc with
          | dic hH hl e r => exact .inl (fin _ (.base (.dK hH)) I.dic (h1 j1 _ H1 R1 Stp.refl (.bl _)))
        | _ => exact h1.elim
    | _ => exact h1.elim
end Qi
namespace Qi
open PySem PySem.Spec L2 PyProof.Rows
theorem codeO_sl {a C dx : Addr} {q : Str} {vs : List (Option V)} : SlX.SlO a C dx vs ≠ LamX.CodeO a q := fun z => by
  unfold SlX.SlO LamX.CodeO at z
  injection z with z
  let ob : Obj := { cls := .none, data := .fields #[.none, .str q 0] }
  let h : Heap := { objs := Array.replicate (a + 1) ob }
  have hg : h.get? a = some ob := by
    have e : (Array.replicate (a + 1) ob)[a]? = some ob := by simp
    show (match (Array.replicate (a + 1) ob)[a]? with | some ⟨_, _, .freed, _⟩ => none | x => x) = some ob
    rw [e]
  have p : ∃ (oc : Obj) (vs : Array Value) (t : Tok), h.get? a = some oc ∧ oc.data = .fields vs ∧ vs[1]? = some (.str q t) := ⟨ob, _, 0, hg, rfl, rfl⟩
  have p2 := (congrFun z h).mpr p
  obtain ⟨sl, e, _⟩ := p2
  rw [hg] at e
  have e' := congrArg Obj.data (Option.some.inj e)
  cases e'
section
variable {K : Kx} {lin : Nat → Bool} {g : Gd} {j : Nat → Addr} {σ : Sl} {S : Sto} {σV : L2.St} {H H00 : Hp} {p : Addr} {o : HO}
/-- the heap at the entry, with less known of it -/
theorem Rel.rebase (R : Rel K lin g j σ S σV H) (sub : ∀ a o, H00 a = some o → g.H0 a = some o) : Rel K lin { g with H0 := H00 } j σ S σV H := by
  have no : ∀ a, g.H0 a = none → H00 a = none := fun a h => by
    cases q : H00 a with
    | none => rfl
    | some o => rw [sub a o q] at h; cases h
  exact ⟨R.len, R.inj, R.lc, R.ll, R.oc, R.ol, R.trk, R.slots, R.cells, fun a o t h f => R.frame a o t (sub a o h) f, fun n h1 h2 => no _ (R.newc n h1 h2), fun i a h => no _ (R.newl i a h), R.n0, R.ag, fun a o h => R.dom a o (sub a o h), R.tabs⟩
theorem le_holdOld (hp : H p = some o) (nd : ¬ Dt o) : (wo K lin g.B j σ S σV H).Le (wo K lin (g.hold p).B j σ S σV H) :=
  ⟨rfl, rfl, fun a u t e f => ⟨e, fun z => by
    rcases z with (z | z) | z | z
    · exact f (.inl z)
    · have e' : H a = some u := e
      rw [z, hp] at e'
      cases e'
      exact nd t
    · exact f (.inr (.inl z))
    · exact f (.inr (.inr z))⟩, fun _ _ => rfl, Nat.le_refl _⟩
/-- an object that no value is read from is held from now on -/
theorem Rel.holdOld (R : Rel K lin g j σ S σV H) (hp : H p = some o) (nd : ¬ Dt o) (hc : ∀ n, n < S.length → j n ≠ p) (hl : ∀ i, ¬ LinA lin σ σV i p) : Rel K lin (g.hold p) j σ S σV H := by
  refine ⟨R.len, R.inj, R.lc, R.ll, fun n hn z => ?_, fun i a h z => ?_, fun a h => ?_, fun i d e => ?_, fun n c e => (R.cells n c e).mono (le_holdOld hp nd) fun _ _ z => z, R.frame, R.newc, R.newl, R.n0, R.ag, R.dom, R.tabs⟩
  · rcases z with z | z
    · exact R.oc n hn z
    · exact hc n hn z
  · rcases z with z | z
    · exact R.ol i a h z
    · rw [z] at h; exact hl i h
  · rcases h with (h | h) | h | h
    · exact R.trk a (.inl h)
    · rw [h]; exact ⟨o, hp⟩
    · exact R.trk a (.inr (.inl h))
    · exact R.trk a (.inr (.inr h))
  · obtain ⟨v, ev, h1, h2⟩ := R.slots i d e
    exact ⟨v, ev, fun z => (h1 z).mono (le_holdOld hp nd), fun z => (h2 z).mono (le_holdOld hp nd) fun _ _ _ _ _ z => z⟩
end
section
variable {K : Kx} {lin : Nat → Bool} {g : Gd} {j : Nat → Addr} {σ : Sl} {S : Sto} {σV : L2.St} {H : Hp} {i : Nat}
theorem linA_forget {k : Nat} {a : Addr} (h : LinA lin (σ.set i none) σV k a) : k ≠ i ∧ LinA lin σ σV k a := by
  obtain ⟨h1, ⟨d, h2, ho⟩, h3⟩ := h
  by_cases e : k = i
  · subst e
    by_cases hlt : k < σ.length
    · rw [List.getElem?_set_self hlt] at h2; cases h2
    · rw [List.getElem?_eq_none_iff.mpr (by rw [List.length_set]; omega)] at h2; cases h2
  · rw [List.getElem?_set_ne (Ne.symm e)] at h2
    exact ⟨e, h1, ⟨d, h2, ho⟩, h3⟩
theorem le_forget {B : Addr → Prop} : (wo K lin B j σ S σV H).Le (wo K lin B j (σ.set i none) S σV H) :=
  ⟨rfl, rfl, fun a o _ e f => ⟨e, fun z => f (z.imp (fun y => y) fun y => y.imp (fun u => u) fun ⟨k, u⟩ => ⟨k, (linA_forget u).2⟩)⟩, fun _ _ => rfl, Nat.le_refl _⟩
/-- a slot that is not looked at any more -/
theorem Rel.forget (R : Rel K lin g j σ S σV H) : Rel K lin g j (σ.set i none) S σV H := by
  refine ⟨by rw [List.length_set, R.len], R.inj, fun k a n h => R.lc k a n (linA_forget h).2, fun k k' a h h' => R.ll k k' a (linA_forget h).2 (linA_forget h').2, R.oc, fun k a h => R.ol k a (linA_forget h).2,
    fun a z => R.trk a (z.imp (fun y => y) fun y => y.imp (fun u => u) fun ⟨k, u⟩ => ⟨k, (linA_forget u).2⟩), fun k d e => ?_, fun n c e => (R.cells n c e).mono le_forget fun _ _ z => z, R.frame, R.newc, fun k a h => R.newl k a (linA_forget h).2, R.n0, R.ag, R.dom, R.tabs⟩
  have hk : k ≠ i := fun z => by
    subst z
    by_cases hlt : k < σ.length
    · rw [List.getElem?_set_self hlt] at e; cases e
    · rw [List.getElem?_eq_none_iff.mpr (by rw [List.length_set]; omega)] at e; cases e
  rw [List.getElem?_set_ne (Ne.symm hk)] at e
  obtain ⟨v, ev, h1, h2⟩ := R.slots k d e
  exact ⟨v, ev, fun z => (h1 z).mono le_forget, fun z => (h2 z).mono le_forget fun _ _ _ _ _ z => z⟩
end
/-- how an __init__ begins: x the instance, dx its dict, H00 the heap before -/
structure Born (g : Gd) (H00 : Hp) (C x dx : Addr) : Prop where
  x0 : H00 x = none
  d0 : H00 dx = none
  ne : dx ≠ x
  h0 : g.H0 = upd H00 dx (.own x)
  cd : ∀ n, n < g.n0 → g.j0 n ≠ dx
  bd : ¬ g.B dx
theorem Born.sub {g : Gd} {H00 : Hp} {C x dx : Addr} (b : Born g H00 C x dx) : ∀ a o, H00 a = some o → g.H0 a = some o := fun a o h => by
  rw [b.h0, upd_ne (ne_of_none h b.d0)]
  exact h
theorem Born.d1 {g : Gd} {H00 : Hp} {C x dx : Addr} (b : Born g H00 C x dx) : g.H0 dx = some (.own x) := by rw [b.h0, upd_same]
section
variable (Z : Env1) (g : Gd) (H00 : Hp) (x : Addr)
def OutI (D : Ends) : Res Fl → Prop
  | .ok (.ret d) S' => ∀ j' σV' H', Rel Z.K nolin { g with H0 := H00 } j' [] S' [] H' → RD (wo Z.K nolin g.B j' [] S' [] H') d (.ref x) → D.nx σV' H'
  | .exc y S' => ∀ j' cls dd σV' H', RetR Z { g with H0 := H00 } j' S' H' → RX (w0 Z { g with H0 := H00 } j' S' H') y cls dd → Z.W cls dd σV' H'
  | _ => False
end
def lI2 (Z : Env1) (C x dx : Addr) (m : Co) : TS := fun D σV H => ∃ g j σ S H00, RelZ Z g j σ S σV H ∧ Born g H00 C x dx ∧ OutI Z g H00 x D (m σ S)
def cSeqI (m n : Co) : Co := fun σ S => (m σ S).bind fun f S1 => match f with
  | .next σ1 => n σ1 S1
  | _ => .stuck
section
variable {X : Cx} {Z : Env1} {C x dx : Addr}
theorem dsi_cons {st : Stmt} {rest : List Stmt} {m n : Co} (h1 : DS X Z st m) (h2 : PSs X rest (lI2 Z C x dx n)) : PSs X (st :: rest) (lI2 Z C x dx (cSeqI m n)) := PSs.imp (pss_cons h1 h2) fun D σV H h => by
  obtain ⟨g, j, σ, S, H00, R, b, h⟩ := h
  refine ⟨g, j, σ, S, R, ?_⟩
  unfold cSeqI at h
  generalize m σ S = r at h
  match r, h with
  | .ok (.next σ1) S1, h => exact fun j1 σV1 H1 R1 _ => ⟨g, j1, σ1, S1, H00, R1, b, h⟩
  | .ok (.brk σ1) S1, h => exact h.elim
  | .ok (.cnt σ1) S1, h => exact h.elim
  | .ok (.ret d) S1, h => exact h.elim
  | .exc y S1, h => exact fun j' cls dd σV' H' R' rx => h j' cls dd σV' H' (R'.rebase b.sub) rx
  | .stuck, h => exact h.elim
/-- self.f = m1; self.g = m2, at the end -/
def isMe : D → Bool
  | .clo 0 [] => true
  | _ => false
theorem isMe_eq {d : D} (h : isMe d = true) : d = .clo 0 [] := by
  unfold isMe at h
  split at h
  · rfl
  · cases h
def cFin (c : Nat) (m1 m2 : Ex) : Co := fun σ S => match σ[0]? with
  | some (some d) => if isMe d = true then ((m1 σ S).bind fun d1 S1 => (m2 (σ.set 0 none) S1).bind fun d2 S2 => .ok (.ret (.obj c [d2, d1])) S2) else .stuck
  | _ => .stuck
theorem dsi_fin {c : Nat} {m1 m2 : Ex} {f1 f2 : Str} {p1 p2 : Addr} {s1 s2 : Stmt} (hme : Z.K.me = some (x, .ins C dx [])) (hC : Z.K.cl c = C) (hl : Z.lin 0 = true) (sc : SlX.SCls X.K C) (t1 : SlX.Slot1 X.K C f1 p1 1) (t2 : SlX.Slot1 X.K C f2 p2 0)
    (h1 : PS X s1 (SlX.sSl X.K (tVar 0) (lE Z m1) f1)) (h2 : PS X s2 (SlX.sSl X.K (tVar 0) (lE Z m2) f2)) : PSs X [s1, s2] (lI2 Z C x dx (cFin c m1 m2)) := PSs.imp (pss_cons h1 (pss_one h2)) fun D σV H h => by
  obtain ⟨g, j, σ, S, H00, R, b, h⟩ := h
  unfold cFin at h
  cases hs0 : σ[0]? with
  | none => rw [hs0] at h; exact h.elim
  | some o0 =>
  cases o0 with
  | none => rw [hs0] at h; exact h.elim
  | some d0 =>
  rw [hs0] at h
  dsimp only at h
  by_cases hm0 : isMe d0 = true
  case neg => rw [if_neg hm0] at h; exact h.elim
  rw [if_pos hm0] at h
  have e0 := isMe_eq hm0
  subst e0
  have at0 : ∀ {j' S' H'}, RelZ Z g j' σ S' σV H' → σV[0]? = some (some (.ref x)) ∧ H' x = some (.ins C dx []) := fun {j' S' H'} R' => by
    obtain ⟨v, ev, _, r2⟩ := R'.slots 0 _ hs0
    cases r2 hl with
    | pin ha t e =>
      have ha' : Z.K.me = some (_, _) := ha
      rw [hme] at ha'
      cases ha'
      exact ⟨ev, e⟩
  have slot0 : σV[0]? = some (some (.ref x)) := (at0 R).1
  have L0 : LinA Z.lin σ σV 0 x := ⟨hl, ⟨_, hs0, rfl⟩, slot0⟩
  refine ⟨g, j, σ, S, R, ?_⟩
  generalize m1 σ S = r1 at h
  match r1, h with
  | .exc y S1, h => exact fun j' cls dd H' R' _ rx => h j' cls dd σV H' (R'.drop.rebase b.sub) (rx.mono le_drop)
  | .stuck, h => exact h.elim
  | .ok d1 S1, h =>
  intro j1 v1 H1 R1 st1 rd1
  -- the instance, untouched so far
  have nx : ∀ n, n < S1.length → j1 n ≠ x := fun n hn => R1.lc 0 x n L0 hn
  have nd : ∀ n, n < S1.length → j1 n ≠ dx := fun n hn e => by
    by_cases hl : n < g.n0
    · exact b.cd n hl (by rw [← R1.ag n hl]; exact e)
    · have z := R1.newc n (by omega) hn
      rw [e, b.d1] at z; cases z
  have hx1 : H1 x = some (.ins C dx []) := (at0 R1).2
  have hd1 : H1 dx = some (.own x) := R1.frame dx _ nt_own b.d1 fun n hn e => nd n (Nat.lt_of_lt_of_le hn R1.n0) e
  have lx : ∀ i, ¬ LinA Z.lin (σ.set 0 none) σV i x := fun i z => (linA_forget z).1 (R1.ll i 0 x (linA_forget z).2 L0)
  have ld : ∀ i, ¬ LinA Z.lin (σ.set 0 none) σV i dx := fun i z => by
    have q := R1.newl i dx (linA_forget z).2
    rw [b.d1] at q; cases q
  refine ⟨.ref x, slot0, x, C, dx, p1, [], 1, rfl, .inl ⟨hx1, rfl⟩, sc, t1, ?_⟩
  -- from now on it is held
  have nI : ¬ Dt (.ins C dx []) := fun z => z.ins _ _ _ rfl
  have nO : ¬ Dt (.own x) := fun z => z.own _ rfl
  have bgx : ¬ g.B x := R1.ol 0 x L0
  have Rb : RelZ Z { g with H0 := H00 } j1 (σ.set 0 none) S1 σV H1 := R1.forget.rebase b.sub
  have Rx : RelZ Z (({ g with H0 := H00 } : Gd).hold x) j1 (σ.set 0 none) S1 σV H1 := Rb.holdOld hx1 nI nx lx
  have Rd : RelZ Z ((({ g with H0 := H00 } : Gd).hold x).hold dx) j1 (σ.set 0 none) S1 σV H1 := Rx.holdOld hd1 nO nd ld
  let g2 : Gd := (({ g with H0 := H00 } : Gd).hold x).hold dx
  have bx : g2.B x := .inl (.inr rfl)
  have bd : g2.B dx := .inr rfl
  have le1 : (wz Z g j1 σ S1 σV H1).Le (wz Z g2 j1 (σ.set 0 none) S1 σV H1) := (le_forget.trans (le_holdOld (g := ({ g with H0 := H00 } : Gd)) hx1 nI)).trans (le_holdOld hd1 nO)
  have R2a : RelZ Z g2 j1 (σ.set 0 none) S1 σV (upd H1 dx (.xd [])) := Rel.updHeld (g := g2) Rd bd b.d0 hd1 pl_own
  have hx2 : upd H1 dx (.xd []) x = some (.ins C dx []) := by rw [upd_ne (Ne.symm b.ne)]; exact hx1
  have R2 : RelZ Z g2 j1 (σ.set 0 none) S1 σV (SlX.slH H1 x C dx (SlX.putS 1 v1 [])) := Rel.updHeld (g := g2) R2a bx b.x0 hx2 pl_ins
  have le2 : (wz Z g2 j1 (σ.set 0 none) S1 σV H1).Le (wz Z g2 j1 (σ.set 0 none) S1 σV (SlX.slH H1 x C dx (SlX.putS 1 v1 []))) := (le_updH bd).trans (le_updH bx)
  have eP : SlX.putS 1 v1 [] = [none, some v1] := rfl
  have rd2 : RD (wz Z g2 j1 (σ.set 0 none) S1 σV (SlX.slH H1 x C dx (SlX.putS 1 v1 []))) d1 v1 := (rd1.mono le1).mono le2
  refine ⟨g2, j1, σ.set 0 none, S1, R2, ?_⟩
  dsimp only [Res.bind] at h
  generalize m2 (σ.set 0 none) S1 = r2 at h
  match r2, h with
  | .exc y S2, h =>
    intro j' cls dd H' R' _ rx
    have sb : ∀ a, g.B a → g2.B a := fun a z => .inl (.inl z)
    have Rf : RelZ Z { g with H0 := H00 } j' (σ.set 0 none) S2 σV H' := R'.free (B' := g.B) sb
    exact h j' cls dd σV H' Rf.drop ((rx.mono (le_free sb)).mono le_drop)
  | .stuck, h => exact h.elim
  | .ok d2 S2, h =>
  intro j2 v2 H2 R3 st2 rd3
  have hx3 : H2 x = some (SlX.SlO x C dx [none, some v1]) := st2.keep x _ nt_sl (by unfold SlX.slH; rw [upd_same, eP]) fun n hn e => R2.oc n hn (by rw [e]; exact bx)
  have hd3 : H2 dx = some (.xd []) := st2.keep dx _ nt_xd (by unfold SlX.slH; rw [upd_ne b.ne, upd_same]) fun n hn e => R2.oc n hn (by rw [e]; exact bd)
  refine ⟨.ref x, slot0, x, C, dx, p2, [none, some v1], 0, rfl, .inr ⟨hx3, hd3⟩, sc, t2, ?_⟩
  have R4a : RelZ Z g2 j2 (σ.set 0 none) S2 σV (upd H2 dx (.xd [])) := Rel.updHeld (g := g2) R3 bd b.d0 hd3 pl_xd
  have hx4 : upd H2 dx (.xd []) x = some (SlX.SlO x C dx [none, some v1]) := by rw [upd_ne (Ne.symm b.ne)]; exact hx3
  have R4 : RelZ Z g2 j2 (σ.set 0 none) S2 σV (SlX.slH H2 x C dx (SlX.putS 0 v2 [none, some v1])) := Rel.updHeld (g := g2) R4a bx b.x0 hx4 ⟨nt_sl, fun q => codeO_sl⟩
  have le4 : (wz Z g2 j2 (σ.set 0 none) S2 σV H2).Le (wz Z g2 j2 (σ.set 0 none) S2 σV (SlX.slH H2 x C dx (SlX.putS 0 v2 [none, some v1]))) := (le_updH bd).trans (le_updH bx)
  have eP2 : SlX.putS 0 v2 [none, some v1] = [v2, v1].map some := rfl
  have sb : ∀ a, g.B a → g2.B a := fun a z => .inl (.inl z)
  have R5 : Rel Z.K nolin { g with H0 := H00 } j2 [] S2 [] (SlX.slH H2 x C dx (SlX.putS 0 v2 [none, some v1])) := (R4.free (B' := g.B) sb).drop.relin
  have le5 : (wz Z g2 j2 (σ.set 0 none) S2 σV (SlX.slH H2 x C dx (SlX.putS 0 v2 [none, some v1]))).Le (wo Z.K nolin g.B j2 [] S2 [] (SlX.slH H2 x C dx (SlX.putS 0 v2 [none, some v1]))) := ((le_free sb).trans (le_drop (g := ({ g with H0 := H00 } : Gd)))).trans le_relin
  have r1 := ((rd2.mono (st2.wle)).mono le4).mono le5
  have r2 := (rd3.mono le4).mono le5
  have nF : ∀ y, g2.B y → ¬ g.B y → ¬ FF nolin g.B j2 S2.length [] [] y := fun y hy hn z => by
    rcases z with z | ⟨n, hn', e⟩ | ⟨i, z⟩
    · exact hn z
    · exact R4.oc n hn' (by rw [e]; exact hy)
    · exact noLin z
  refine h j2 σV _ R5 (.obj (dx := dx) (vs := [v2, v1]) ?_ ?_ (nF x bx bgx) (nF dx bd b.bd) (.cons r2 (.cons r1 .nil)))
  · show SlX.slH H2 x C dx _ x = _
    unfold SlX.slH
    rw [upd_same]
    show some (SlX.SlO x C dx (SlX.putS 0 v2 [none, some v1])) = some (SlX.SlO x (Z.K.cl c) dx _)
    rw [hC, eP2]
  · show SlX.slH H2 x C dx _ dx = _
    unfold SlX.slH
    rw [upd_ne b.ne, upd_same]
end
end Qi
namespace Qi
open PySem PySem.Spec L2 PyProof.Rows
/-- another pinned instance: what is read stays -/
def Kx.pin (K : Kx) (m : Option (Addr × HO)) : Kx := { K with me := m }
section
variable {K : Kx} {lin : Nat → Bool} {g : Gd} {j : Nat → Addr} {S : Sto} {H : Hp} {m m' : Option (Addr × HO)}
theorem le_pin {B : Addr → Prop} : (wo (K.pin m) lin B j [] S [] H).Le (wo (K.pin m') lin B j [] S [] H) := ⟨rfl, rfl, fun _ _ _ h f => ⟨h, f⟩, fun _ _ => rfl, Nat.le_refl _⟩
theorem le_unpin {B : Addr → Prop} : (wo (K.pin m) lin B j [] S [] H).Le (wo K lin B j [] S [] H) := ⟨rfl, rfl, fun _ _ _ h f => ⟨h, f⟩, fun _ _ => rfl, Nat.le_refl _⟩
theorem Rel.pin (R : Rel (K.pin m) lin g j [] S [] H) : Rel (K.pin m') lin g j [] S [] H :=
  ⟨rfl, R.inj, R.lc, R.ll, R.oc, R.ol, R.trk, fun i d h => by simp at h, fun n c e => (R.cells n c e).mono le_pin fun o _ h => h, R.frame, R.newc, R.newl, R.n0, R.ag, R.dom, R.tabs⟩
theorem Rel.again (R : Rel K lin g j [] S [] H) : Rel K lin ⟨g.B, H, S.length, j⟩ j [] S [] H :=
  ⟨rfl, R.inj, R.lc, R.ll, R.oc, R.ol, R.trk, R.slots, R.cells, fun a o _ h _ => h, fun n h1 h2 => absurd h2 (by show ¬ n < S.length; have : S.length ≤ n := h1; omega), fun i a h => (noLin h).elim, Nat.le_refl _, fun n _ => rfl, fun a o h => ⟨o, h⟩, R.tabs⟩
end
/-- the slots of an __init__ at its entry -/
theorem Rel.startI {K : Kx} {lin : Nat → Bool} {B : Addr → Prop} {j : Nat → Addr} {S : Sto} {H1 : Hp} {N : List Str} {ds : List D} {vs : List V} {x C dx : Addr} {np : Nat} (hme : K.me = some (x, .ins C dx [])) (R : Rel K nolin ⟨B, H1, S.length, j⟩ j [] S [] (upd H1 x (.ins C dx []))) (rd : RDs (wo K nolin B j [] S [] (upd H1 x (.ins C dx []))) ds vs)
    (hx : H1 x = none) (hj : ∀ n, n < S.length → j n ≠ x) (hB : ¬ B x) (hn : ds.length = np) (hnp : np + 1 ≤ N.length) (h0 : lin 0 = true) (hl : ∀ i, 1 ≤ i → i < np + 1 → lin i = false) :
    Rel K lin ⟨B, H1, S.length, j⟩ j (startD N.length (.clo 0 [] :: ds)) S (L2.start N (.ref x :: vs)) (upd H1 x (.ins C dx [])) := by
  have nl : ∀ i a, LinA lin (startD N.length (.clo 0 [] :: ds)) (L2.start N (.ref x :: vs)) i a → i = 0 ∧ a = x := fun i a ⟨h1, ⟨d, h2, _⟩, h3⟩ => by
    have h4 := start_get h2
    have h5 := (List.getElem?_eq_some_iff.mp h4).1
    rw [List.length_cons] at h5
    have hi : i = 0 := by
      by_cases z : i = 0
      · exact z
      · rw [hl i (by omega) (by omega)] at h1; cases h1
    subst hi
    rw [startV_get (v := .ref x) rfl] at h3
    cases h3
    exact ⟨rfl, rfl⟩
  have le : (wo K nolin B j [] S [] (upd H1 x (.ins C dx []))).Le (wo K lin B j (startD N.length (.clo 0 [] :: ds)) S (L2.start N (.ref x :: vs)) (upd H1 x (.ins C dx []))) := ⟨rfl, rfl, fun a o t h f => ⟨h, fun z => by
    rcases z with z | z | ⟨i, z⟩
    · exact f (.inl z)
    · exact f (.inr (.inl z))
    · have e := (nl i a z).2
      subst e
      have h' : upd H1 a (.ins C dx []) a = some o := h
      rw [upd_same] at h'
      cases h'
      exact t.ins _ _ _ rfl⟩, fun _ _ => rfl, Nat.le_refl _⟩
  refine ⟨?_, R.inj, fun i a n h hn => ?_, fun i i' a h h' => by rw [(nl i a h).1, (nl i' a h').1], R.oc, fun i a h => by rw [(nl i a h).2]; exact hB, fun a h => ?_, fun i d e => ?_, fun n c e => (R.cells n c e).mono le fun o _ h => h, R.frame, R.newc, fun i a h => by rw [(nl i a h).2]; exact hx, R.n0, R.ag, R.dom, R.tabs⟩
  · have := rd.length
    unfold startD L2.start
    simp only [List.length_append, List.length_map, List.length_replicate, List.length_cons]
    rw [this]
  · rw [(nl i a h).2]; exact hj n hn
  · rcases h with h | h | ⟨i, h⟩
    · exact R.trk a (.inl h)
    · exact R.trk a (.inr (.inl h))
    · rw [(nl i a h).2]; exact ⟨_, upd_same⟩
  · have e' := start_get e
    have hi := (List.getElem?_eq_some_iff.mp e').1
    rw [List.length_cons] at hi
    cases i with
    | zero =>
      cases e'
      refine ⟨.ref x, startV_get rfl, (fun z => by rw [h0] at z; cases z), fun _ => .pin hme nt_ins upd_same⟩
    | succ i =>
      obtain ⟨v, ev, r⟩ := rd.get (i := i) (d := d) e'
      refine ⟨v, startV_get (by exact ev), fun _ => r.mono le, fun z => ?_⟩
      rw [hl (i + 1) (by omega) (by omega)] at z; cases z
def InitSp (K : Kx) (C : Addr) (cf : Cf) (f np : Nat) : Sp := fun vs H Q E => ∃ x dx H0 vs' B j S ds, vs = .ref x :: vs' ∧ H0 x = none ∧ H0 dx = none ∧ dx ≠ x ∧ H = upd (upd H0 dx (.own x)) x (.ins C dx []) ∧ Rel K nolin ⟨B, H0, S.length, j⟩ j [] S [] H0 ∧ RDs (wo K nolin B j [] S [] H0) ds vs' ∧ ds.length = np ∧
  match cf f (.clo 0 [] :: ds) S with
  | .ok d S' => ∀ j' H', Rel K nolin ⟨B, H0, S.length, j⟩ j' [] S' [] H' → RD (wo K nolin B j' [] S' [] H') d (.ref x) → Q .non H'
  | .exc y S' => ∀ j' cls dd H', Rel K nolin ⟨B, H0, S.length, j⟩ j' [] S' [] H' → RX (wo K nolin B j' [] S' [] H') y cls dd → E cls dd H'
  | .stuck => False
def cEnd (m : Co) : Co := fun σ S => match m σ S with
  | .ok (.ret d) S' => .ok (.ret d) S'
  | .exc y S' => .exc y S'
  | _ => .stuck
theorem fn_init {P : Program} {w : World} {K : Kx} {mg : Str → Option Value} {base : Heap} {x qual : Str} {st : Stmt} {fa C : Addr} {fd : FuncData} {N ps : List Str} {k r f np : Nat} {T : Tab} {d : FDef} {lin : Nat → Bool} {mm : Cf → Co} (F : Fun K.K x qual st fa fd) (SC : FnScope N ps (defScope st))
    (hT : T f = some d) (hd : d.code = fun cf => cEnd (mm cf)) (hnp : d.np = np + 1) (hp : ps.length = np + 1) (hN : N.length = d.ns) (h0 : lin 0 = true) (hl : ∀ i, 1 ≤ i → i < np + 1 → lin i = false)
    (hbody : ∀ (cdv : Value) (A : Around) (outer : List Env) (s : Shared) (H : Hp) (E : XK) (xa dx : Addr), Room r (A.deeper (PyProof.Rows.envOfC qual (defScope st) s.heap.objs.size fa cdv)) →
      PSs (cxOf (L2.CX P w) P w K.K mg base N qual (defScope st) fa cdv A outer s H E) (defBody st) (lI2 ⟨K.pin (some (xa, .ins C dx [])), lin, wishE E⟩ C xa dx (mm (callN T k)))) :
    FnOk P w K.K mg base (L2.CX P w) (r + 1) fa fd ps (InitSp K C (callN T (k + 1)) f np) := by
  refine F.okX SC (fun vs H Q E h => ?_) (fun cdv A outer s H vs Q E hr h => ?_)
  · obtain ⟨xa, dx, H0, vs', B, j, S, ds, rfl, _, _, _, _, _, rd, hn, _⟩ := h
    rw [List.length_cons, rd.length, hn, hp]
  · obtain ⟨xa, dx, H0, vs', B, j, S, ds, rfl, hx, hdx, hne, rfl, R, rd, hn, h⟩ := h
    refine ⟨_, hbody cdv A outer s _ E xa dx hr, ?_⟩
    have Rp : Rel (K.pin (some (xa, .ins C dx []))) nolin ⟨B, H0, S.length, j⟩ j [] S [] H0 := Rel.pin (m := K.me) (by exact R)
    have Ra := Rp.alloc (p := dx) (o := .own xa) hdx
    have hx1 : upd H0 dx (.own xa) xa = none := by rw [upd_ne (Ne.symm hne)]; exact hx
    have Rb := Ra.again.alloc (p := xa) (o := .ins C dx []) hx1
    have leP : (wo K nolin B j [] S [] H0).Le (wo (K.pin (some (xa, .ins C dx []))) nolin B j [] S [] H0) := ⟨rfl, rfl, fun _ _ _ h f => ⟨h, f⟩, fun _ _ => rfl, Nat.le_refl _⟩
    have rd2 := ((rd.mono leP).mono (le_alloc (p := dx) (o := .own xa) hdx)).mono (le_alloc (p := xa) (o := .ins C dx []) hx1)
    have tr : ∀ a, FF nolin B j S.length [] [] a → ∃ o, H0 a = some o := R.trk
    have hj : ∀ n, n < S.length → j n ≠ xa := fun n hn e => by
      obtain ⟨o, eo⟩ := tr xa (.inr (.inl ⟨n, hn, e⟩))
      rw [hx] at eo; cases eo
    have hjd : ∀ n, n < S.length → j n ≠ dx := fun n hn e => by
      obtain ⟨o, eo⟩ := tr dx (.inr (.inl ⟨n, hn, e⟩))
      rw [hdx] at eo; cases eo
    have hB : ∀ a, H0 a = none → ¬ B a := fun a ha z => by
      obtain ⟨o, eo⟩ := tr a (.inl z)
      rw [ha] at eo; cases eo
    have hle : np + 1 ≤ N.length := by
      have := congrArg List.length SC.pre
      rw [List.length_take] at this
      omega
    refine ⟨⟨B, upd H0 dx (.own xa), S.length, j⟩, j, startD N.length (.clo 0 [] :: ds), S, H0, Rel.startI rfl Rb rd2 hx1 hj (hB _ hx) hn hle h0 hl, ⟨hx, hdx, hne, rfl, fun n hn => hjd n hn, hB _ hdx⟩, ?_⟩
    have hc : (Qi.D.clo 0 [] :: ds).length = d.np := by rw [List.length_cons, hn, hnp]
    simp only [callN, hT, runB, hc, if_true, hd, cEnd] at h
    rw [hN]
    generalize mm (callN T k) (startD d.ns (.clo 0 [] :: ds)) S = r at h
    match r, h with
    | .ok (.ret v) S', h => exact fun j' σV' H' R' rd' => h j' H' (by exact R'.pin (m' := K.me)) (rd'.mono le_unpin)
    | .ok (.next σ) S', h => exact h
    | .exc y S', h => exact fun j' cls dd _ H' R' rx => h j' cls dd H' (by exact (Rel.relin R').pin (m' := K.me)) ((rx.mono (le_relin (lin' := nolin))).mono le_unpin)
    | .ok (.brk _) _, h => exact h
    | .ok (.cnt _) _, h => exact h
    | .stuck, h => exact h
theorem init_zero {P : Program} {w : World} {K : Kx} {mg : Str → Option Value} {base : Heap} {fa C : Addr} {fd : FuncData} {ps : List Str} {r f np : Nat} {T : Tab} : FnOk P w K.K mg base (L2.CX P w) r fa fd ps (InitSp K C (callN T 0) f np) :=
  ⟨fun vs H Q E ⟨_, _, _, _, _, _, _, _, _, _, _, _, _, _, _, _, h⟩ => h.elim, fun _ _ _ _ _ _ _ _ _ _ _ _ _ ⟨_, _, _, _, _, _, _, _, _, _, _, _, _, _, _, _, h⟩ => h.elim⟩
section
variable {X : Cx} {Z : Env1} {e : Expr} {pos : Pos}
def tMakeS (C : Addr) (sp : Sp) (E : L2.St → XK) (t : TA) : TE := fun σ H Q => t σ H fun vs H1 => ∀ x dx, H1 x = none → H1 dx = none → dx ≠ x → sp (.ref x :: vs) (upd (upd H1 dx (.own x)) x (.ins C dx [])) (fun v H2 => v = .non ∧ Q (.ref x) H2) (E σ)
theorem pe_makeS {CX : CXT} {k : Nat} {C f : Addr} {fd : FuncData} {ps : List Str} {sp : Sp} {E : L2.St → XK} {x : Str} {p : Pos} {es : List Expr} {t : TA} (M : Mk X.K C f) (F : FnOk X.prog X.w X.K X.mg X.base CX k f fd ps sp) (hr : Room (k + 1) X.A) (hg : Gl X x) (hm : X.mg x = some (.ref C)) (hb : Binds X.K fd ps []) (hx : ∀ σ, PassesAt CX X σ (E σ))
    (ha : PA X (e :: es) t) (hdb : (x == ("__debug__" : Str)) = false := by decide) (he : starEach (e :: es) X.env = (false, eval e X.env) :: starEach es X.env := by rfl) (hpl : (backTo pos (starEach es X.env)).any (·.1) = false := by rfl) :
    PE X (.Call (.Name x p) (e :: es) [] pos) (tMakeS C sp E t) := by
  refine ⟨fun pins s σ H Q I h => ?_⟩
  refine wpAny_Call_Name_kw (ld_glob I hg hm ?_ hdb)
  refine PySem.W.callWith_K (h₀ := X.base) I.ok.mod.kin M.kp (thn (ha.run pos pins s σ H _ I h) fun us s1 ⟨vs, H1, I1, r, q⟩ => ⟨I1.kIn, ?_⟩) he hpl
  have hq := q (s1.heap.objs.size + 1) s1.heap.objs.size (I1.hok.fresh (Nat.le_succ _)) (I1.hok.fresh (Nat.le_refl _)) (Nat.ne_of_lt (Nat.lt_succ_self _))
  have I2 := Inv.made (C := C) I1
  have r2 : Vals (V.ref (s1.heap.objs.size + 1) :: vs) (Value.ref (s1.heap.objs.size + 1) :: us) := .cons rfl r
  have hl : (Value.ref (s1.heap.objs.size + 1) :: us).length = ps.length := by rw [← r2.length]; exact F.len _ _ _ _ hq
  have hb' := hb _ (Value.ref (s1.heap.objs.size + 1) :: us) I2.kIn (by rw [List.append_nil]; exact hl)
  rw [List.append_nil] at hb'
  refine wpAny_call (make_map (f := f) I1.kIn M.makes M.init (beq_iff_eq.mp M.fn) (codeAny_mono (F.run _ X.stack _ _ ⟨Value.ref (s1.heap.objs.size + 1) :: us, []⟩ (Value.ref (s1.heap.objs.size + 1) :: us) _ _ (E σ) (hr.make C us []) (I2.env0.make C us []) hb' r2 hq) fun r s' hq' => ?_))
  match r, hq' with
  | .error e, hq' => exact hx σ pins _ _ e s' I2 hq'
  | .ok (.ret u), hq' =>
    obtain ⟨v, H', I3, rv, ev, q3⟩ := I2.after hq'
    subst ev
    exact ⟨rv, ⟨V.ref (s1.heap.objs.size + 1), H', I3, rfl, q3⟩⟩
  | .ok .next, hq' => exact False.elim hq'
  | .ok .brk, hq' => exact False.elim hq'
  | .ok .cont, hq' => exact False.elim hq'
def xMake (cf : Cf) (f np : Nat) (ms : Ag) : Ex := fun σ S => (ms σ S).bind fun ds S1 => if ds.length = np then cf f (.clo 0 [] :: ds) S1 else .stuck
theorem de_make {x : Str} {k np f : Nat} {fa C : Addr} {fd : FuncData} {ps : List Str} {cf : Cf} {ms : Ag} {es : List Expr} {p : Pos} (M : Mk X.K C fa) (F : FnOk X.prog X.w X.K X.mg X.base (L2.CX X.prog X.w) k fa fd ps (InitSp Z.K C cf f np)) (hr : Room (k + 1) X.A) (hg : Gl X x) (hm : X.mg x = some (.ref C)) (hb : Binds X.K fd ps [])
    (tk : Takes X Z.W) (ha : DA X Z (e :: es) ms) (hdb : (x == ("__debug__" : Str)) = false := by decide) (he : starEach (e :: es) X.env = (false, eval e X.env) :: starEach es X.env := by rfl) (hpl : (backTo pos (starEach es X.env)).any (·.1) = false := by rfl) : DE X Z (.Call (.Name x p) (e :: es) [] pos) (xMake cf f np ms) :=
  PE.imp (pe_makeS M F hr hg hm hb (passAt tk) ha hdb he hpl) fun σV H Q h => by
    obtain ⟨g, j, σ, S, R, h⟩ := h
    refine ⟨g, j, σ, S, R, OutR.bind (fun ds S1 j1 vs H1 R1 s1 rds h1 => ?_) h⟩
    intro xa dx hx hdx hne
    split at h1
    · rename_i hnp
      refine ⟨xa, dx, H1, vs, keepB Z.lin g.B σ σV, j1, S1, ds, rfl, hx, hdx, hne, rfl, R1.enter, rds.mono le_in, hnp, ?_⟩
      generalize cf f (.clo 0 [] :: ds) S1 = r at h1
      match r, h1 with
      | .ok d S2, h1 => exact fun j2 H2 C rd => ⟨rfl, h1 j2 (.ref xa) H2 (R1.follow C) C.stp (rd.mono le_out)⟩
      | .exc y S2, h1 => exact fun j2 cls dd H2 C rx => h1 j2 cls dd H2 (R1.follow C) C.stp (rx.mono le_out)
      | .stuck, h1 => exact h1
    · exact h1.elim
end
end Qi
namespace Qi
open PySem PySem.Spec L2 PyProof.Rows PySem.W
section
variable {prog : Program} {w : World} {A : Around} {E : Value → Shared → Prop} {s : Shared} {K : PySem.W.Frag} {x C f L : Addr} {ox : Obj} {od : Option Obj} {h₀ : Heap} {m : Str → Option Value} {b tb : Value}
theorem len_own {Q : Value → Shared → Prop} (X : K.In s.heap) (I : InstAt s.heap x ox C od) (hs : findIn K (.ref C) "__len__" = some (some (.ref f))) (hf : isFn K (.ref f) = true)
    (h : wpAny (model prog w) A.in1 (call (.ref f) [.ref x]) (fun r s₁ => ∃ (n : Nat) (u : Tok), r = Value.int n u ∧ (n : Int) < 2 ^ 63 ∧ Q (.int n s₁.toks) { s₁ with toks := s₁.toks + 1 }) E s) : wpAny (model prog w) A (call (.builtin "len") [.ref x]) Q E s := by
  refine Calls.call_function_entry kind_len plain_len entry_len (args_len1 _) ?_
  unfold Builtin.«len»
  refine wpAny_bind (m := oneArg "len" _) (wpAny_pure ?_)
  refine wpAny_bind (m := callSpecial? (.ref x) (Str.ofString "__len__")) (special_fn X I hs (beq_iff_eq.mp hf) (wpAny_mono h (fun r s' hr => ?_) fun _ _ y => y))
  obtain ⟨n, u, rfl, hz, hq⟩ := hr
  refine wpAny_bind (wpAny_holding (wpAny_pure ?_))
  refine wpAny_bind (wpAny_letGo ?_)
  show wpAny _ _ (if ((n : Nat) : Int) < 0 then _ else _) _ _ _
  rw [if_neg (by omega)]
  show wpAny _ _ (if ((n : Nat) : Int) ≥ 2 ^ 63 then _ else _) _ _ _
  rw [if_neg (by omega)]
  exact wpAny_bind (wpAny_mkInt (wpAny_pure ⟨_, rfl, hq⟩))
theorem ifBound_ne {args : List Value} {Q : Option Value → Shared → Prop} (X : K.In s.heap) (I : InstAt s.heap x ox C od) (hs : findIn K (.ref C) "__ne__" = some (some (.builtin "object.__ne__")))
    (h : wpAny (model prog w) A (call (.builtin "object.__ne__") (.ref x :: args)) (fun v => Q (some v)) E s) : wpAny (model prog w) A (callSpecialIfBound? (.ref x) "__ne__" args) Q E s := by
  have sb := PySem.F.slot_object_ne.bind (.ref x)
  simp only [callSpecialIfBound?, bindSpecialIfBound?]
  refine wpAny_holding (wpAny_bind (wpAny_bind (wpAny_bind (I.type.here ((looks_findIn X hs).here ?_)))))
  refine wpAny_bind (wpAny_askSetting (wpAny_ite ?_))
  have fin : wpAny (model prog w) A (call (.builtin "object.__ne__") ([.ref x] ++ args) >>= fun v => pure (some v)) Q E s := wpAny_bind (wpAny_mono h (fun v s' h' => wpAny_pure h') fun _ _ h' => h')
  simp only [sb]
  split
  · exact wpAny_bind (wpAny_pure (wpAny_pure fin))
  · exact wpAny_tryCatch (wpAny_bind (wpAny_pure (wpAny_pure fin)))
theorem ne_own {Q : Value → Shared → Prop} (hu : A.units + 1 < cLine) (X : K.In s.heap) (I : InstAt s.heap x ox C od) (hb : Looks (model prog w) s.heap (typeOf b) tb) (hn : notFirst K C tb = true) (hne : findIn K (.ref C) "__ne__" = some (some (.builtin "object.__ne__")))
    (hs : findIn K (.ref C) "__eq__" = some (some (.ref f))) (hf : isFn K (.ref f) = true) (hm : mroIn K C (.type "object") = some true)
    (h : wpAny (model prog w) A.in1 (call (.ref f) [.ref x, b]) (fun v s' => ∃ k, v = .bool k ∧ Q (.bool (!k)) s') E s) : wpAny (model prog w) A (compareOp .NotEq (.ref x) b) Q E s := by
  have sub : Looks (model prog w) s.heap (isInstance (.ref x) (.type "object")) true := I.type.andThen (looks_mroIn X hm)
  have one : wpAny (model prog w) A (tryCompare (.ref x) (cmpInfo .NotEq).2.1 b) (fun r s' => ∃ v, r = some v ∧ Q v s') E s := by
    unfold tryCompare
    refine wpAny_bind (ifBound_ne X I hne (wpAny_call (codeAny_call_builtin PySem.F.slot_object_ne.plain PySem.F.cmpEntry_ne (check_slot PySem.F.cmpKind_ne PySem.F.cmpSplit_ne sub (PySem.F.cmpArgs_ne _ _) ?_))))
    unfold Builtin.«object.__ne__»
    refine wpAny_bind (wpAny_pure ?_)
    refine wpAny_bind (wpAny_cRoomFor hu ?_)
    refine wpAny_bind (ifBound_K X I hs hf (wpAny_mono h (fun v s' hv => ?_) fun _ _ e => e))
    obtain ⟨k, rfl, q⟩ := hv
    refine wpAny_bind (wpAny_truthy_bool (wpAny_pure ?_))
    exact wpAny_pure ⟨_, rfl, q⟩
  show wpAny _ _ (richCompare .NotEq (.ref x) b) _ _ _
  unfold richCompare
  simp only [oneThing_ref]
  refine wpAny_holding (wpAny_bind (wpAny_cRoomFor (Nat.lt_of_succ_lt hu) ?_))
  refine wpAny_bind (I.type.here (wpAny_bind (hb.here ?_)))
  split
  · rename_i q
    have e : subIn K tb (.ref C) = some false := by
      rcases Bool.or_eq_true_iff.mp hn with e | e
      · rw [beq_iff_eq.mp e] at q; simp at q
      · exact beq_iff_eq.mp e
    refine wpAny_bind ((looks_subIn X e).here ?_)
    simp only [Bool.false_eq_true, if_false]
    refine wpAny_bind (wpAny_mono one (fun r s' z => ?_) fun _ _ e => e)
    obtain ⟨v, rfl, hq⟩ := z
    exact wpAny_pure hq
  · refine wpAny_bind (wpAny_pure ?_)
    simp only [Bool.false_eq_true, if_false]
    refine wpAny_bind (wpAny_mono one (fun r s' z => ?_) fun _ _ e => e)
    obtain ⟨v, rfl, hq⟩ := z
    exact wpAny_pure hq
end
end Qi
namespace Qi
open PySem PySem.Spec L2 PyProof.Rows
variable {X : Cx} {Z : Env1} {a b c e : Expr} {ma mb mc : Ex} {pos : Pos}
def noE : XK := fun _ _ _ => False
theorem noCX {outer : List Env} {P : Program} {w : World} {H : Hp} {s : Shared} {e : Value} {s' : Shared} (h : L2.CX P w outer H s noE e s') : False := by
  obtain ⟨_, _, _, _, _, _, _, _, _, _, _, _, z⟩ := h
  exact z
theorem passNo : Passes (L2.CX X.prog X.w) X noE := fun _ _ _ _ _ _ _ h => (noCX h).elim
/-- a call that lets no exception out -/
theorem callSp_nox {cf : Cf} {f np : Nat} {g : Gd} {j : Nat → Addr} {σ : Sl} {S : Sto} {σV : L2.St} {H : Hp} {ds : List D} {vs : List V} {Q : VK} (R : RelZ Z g j σ S σV H) (rds : RDs (wz Z g j σ S σV H) ds vs) (hn : ds.length = np) (h : OutR Z g j σ S σV H RD Q (cf f ds S).nox) : CallSp Z.K cf f np vs H Q noE := by
  refine ⟨keepB Z.lin g.B σ σV, j, S, ds, R.enter, rds.mono le_in, hn, ?_⟩
  generalize cf f ds S = r at h
  match r, h with
  | .ok d S2, h => exact fun j2 v H2 C rd => h j2 v H2 (R.follow C) C.stp (rd.mono le_out)
  | .exc y S2, h => exact h.elim
  | .stuck, h => exact h
/-- what a class needs for its instances to be asked by len, == and properties -/
structure OwnF (X : Cx) (K : Kx) (C : Addr) (cf : Cf) (k : Nat) (m : Str) (fa : Addr) (f np : Nat) : Prop where
  at_ : PySem.W.findIn X.K (.ref C) m = some (some (.ref fa))
  fn : PySem.W.isFn X.K (.ref fa) = true
  ok : FnR X.prog X.w X.K X.mg X.base (L2.CX X.prog X.w) k fa (CallSp K cf f np)
def xProp (cf : Cf) (f cn : Nat) (m : Ex) : Ex := fun σ S => (m σ S).bind fun d S1 => match d with
  | .obj c fs => if c = cn then (cf f [.obj c fs] S1).nox else .stuck
  | _ => .stuck
theorem de_prop {cf : Cf} {f cn k : Nat} {fn : Str} {fa p : Addr} (he : DE X Z e ma) (sc : SlX.SCls X.K (Z.K.cl cn)) (at_ : PySem.W.findIn X.K (.ref (Z.K.cl cn)) fn = some (some (.ref p))) (get : PySem.W.specialIn X.K (.ref p) "__get__" = some (some (.builtin "property.__get__")))
    (tk : PySem.W.takesIn X.K (.ref p) = some true) (rc : ∃ rest, PySem.W.recIn X.K p "property" = some (.ref fa :: rest)) (F : FnR X.prog X.w X.K X.mg X.base (L2.CX X.prog X.w) k fa (CallSp Z.K cf f 1)) (hr : Room (k + 1) X.A) (hb : attributeBase e fn X.env (eval e X.env) = eval e X.env := by rfl) :
    DE X Z (.Attribute e fn pos) (xProp cf f cn ma) := PE.imp (SlX.pe_propSl (E := noE) he sc at_ get tk rc F hr (fun _ _ _ _ h => noCX h) hb) fun σV H Q => by
  rintro ⟨g, j, σ, S, R, h⟩
  refine ⟨g, j, σ, S, R, OutR.bind (fun d S1 j1 v H1 R1 s1 rd h1 => ?_) h⟩
  cases d with
  | obj c' fs =>
    dsimp only at h1
    by_cases hc : c' = cn
    · subst hc
      rw [if_pos rfl] at h1
      obtain ⟨a, dx, vs, rfl, hs, r⟩ := rd.of_obj
      exact ⟨a, dx, vs.map some, rfl, hs, callSp_nox R1 (.one rd) rfl h1⟩
    · rw [if_neg hc] at h1; exact h1.elim
  | _ => exact h1.elim
def rLenOwn (C : Addr) (sp : Sp) : List V → Hp → VK → Prop := fun xs H Q => ∃ a dx vs, xs = [V.ref a] ∧ SlX.Slt H a C dx vs ∧ sp [.ref a] H (fun z H' => ∃ n : Nat, z = .int n ∧ (n : Int) < 2 ^ 63 ∧ Q z H') noE
theorem call_lenOwn {cf : Cf} {f k : Nat} {C fa : Addr} (F : OwnF X Z.K C cf k "__len__" fa f 1) (hr : Room (k + 1) X.A) : CallR X (.builtin "len") (rLenOwn C (CallSp Z.K cf f 1)) := by
  intro pins s σ H xs us Q I r h
  obtain ⟨a, dx, vs, rfl, hsl, q⟩ := h
  obtain ⟨u, rfl, ru⟩ := r.one
  cases (show u = Value.ref a from ru)
  obtain ⟨sl, od, _, J, _⟩ := SlX.slt_inst I hsl
  refine len_own I.kIn J F.at_ F.fn (wpAny_mono (wpAny_call (SlX.run_at (us := [.ref a]) (ws := [.ref a]) F.ok hr.in1 I.env0.in1 passNo I (.cons rfl .nil) q)) (fun w s' z => ?_) fun _ _ x => x)
  obtain ⟨z', H', I', rz, n, en, hz, qz⟩ := z
  subst en
  obtain ⟨t, e⟩ := (show ∃ t, w = Value.int n t from rz)
  exact ⟨n, t, e, hz, .int n, H', I'.tok _, ⟨_, rfl⟩, qz⟩
def natOk : D → Sto → Res D
  | .int n, S => if (decide (0 ≤ n) && decide (n < 16777216)) = true then .ok (.int n) S else .stuck
  | _, _ => .stuck
def xLenA (cf : Cf) (f cn : Nat) (m : Ex) : Ex := fun σ S => (m σ S).bind fun d S1 => match rsv S1 d with
  | .obj c fs => if c = cn then (cf f [.obj c fs] S1).nox.bind natOk else .stuck
  | d => oLen d S1
theorem de_lenA {cf : Cf} {f cn k : Nat} {fa : Addr} {p : Pos} (F : OwnF X Z.K (Z.K.cl cn) cf k "__len__" fa f 1) (hr : Room (k + 1) X.A) (hl : CallR X (.builtin "len") (fun xs H Q => ∃ x n, xs = [x] ∧ LenV X.K x H n ∧ Q (.int n) H)) (hg : Gl X "len") (hm : X.mg "len" = none) (hv : bootBuiltins "len" = some (.builtin "len")) (ha : DB X Z e ma)
    (he : starEach [e] X.env = (false, eval e X.env) :: starEach [] X.env := by rfl) (hK : Z.K.K = X.K := by rfl) : DE X Z (.Call (.Name "len" p) [e] [] pos) (xLenA cf f cn ma) :=
  PE.imp (pe_callB (CallR.or hl (call_lenOwn F hr)) hg hm hv (pa_cons ha pa_nil he) (by decide) (by decide) he rfl) fun σV H Q q => by
    obtain ⟨g, j, σ, S, R, h⟩ := q
    refine ⟨g, j, σ, S, R, OutR.bind (fun d S1 j1 v H1 R1 s1 rd h1 => ?_) h⟩
    have rd := rd.rsv R1
    generalize rsv S1 d = d at rd h1
    have data : OutR Z g j1 σ S1 σV H1 RD Q (oLen d S1) → ∃ x n, [v] = [x] ∧ LenV X.K x H1 n ∧ Q (.int n) H1 := fun z => pr_len Z g j1 σ S1 σV H1 v d Q hK R1 rd z
    cases d with
    | obj c' fs =>
      dsimp only at h1
      by_cases hc : c' = cn
      · subst hc
        rw [if_pos rfl] at h1
        have rd' := rd.rd (by intro _ z; cases z)
        obtain ⟨a, dx, vs, rfl, hs, r⟩ := rd'.of_obj
        refine .inr ⟨a, dx, vs.map some, rfl, hs, callSp_nox R1 (.one rd') rfl ?_⟩
        refine OutR.bind (fun z S2 j2 zv H2 R2 s2 rz h2 => ?_) h1
        cases z with
        | int n =>
          simp only [natOk] at h2
          split at h2
          · rename_i hz
            rw [Bool.and_eq_true] at hz
            have z1 := of_decide_eq_true hz.1
            have z2 := of_decide_eq_true hz.2
            have ev := rz.of_int
            subst ev
            exact ⟨n.toNat, by rw [Int.toNat_of_nonneg z1], by rw [Int.toNat_of_nonneg z1]; omega, h2 j2 _ H2 R2 Stp.refl (.int _)⟩
          · exact h2.elim
        | _ => exact h2.elim
      · rw [if_neg hc] at h1; exact h1.elim
    | _ => exact .inl (data h1)
theorem op_neOwn {cf : Cf} {f k : Nat} {C fa : Addr} (F : OwnF X Z.K C cf k "__eq__" fa f 2) (hne : PySem.W.findIn X.K (.ref C) "__ne__" = some (some (.builtin "object.__ne__"))) (hm : PySem.W.mroIn X.K C (.type "object") = some true) (hr : Room (k + 1) X.A) :
    OpR X (compareOp .NotEq) (fun x y H Q => ∃ a dx vs b dy ws, x = .ref a ∧ y = .ref b ∧ SlX.Slt H a C dx vs ∧ SlX.Slt H b C dy ws ∧ CallSp Z.K cf f 2 [x, y] H (fun z H' => ∃ q, z = .bl q ∧ Q (.bl (!q)) H') noE) := by
  intro pins s σ H x y v u Q I rx ry h
  obtain ⟨a, dx, vs, b, dy, ws, rfl, rfl, ha, hb, q⟩ := h
  cases (show v = Value.ref a from rx)
  cases (show u = Value.ref b from ry)
  obtain ⟨sl, od, _, J, _⟩ := SlX.slt_inst I ha
  obtain ⟨sl', od', _, J', _⟩ := SlX.slt_inst I hb
  have hu : X.A.units + 1 < cLine := by have := hr.un; omega
  refine ne_own hu I.kIn J J'.type (by simp [PySem.W.notFirst]) hne F.at_ F.fn hm (wpAny_mono (wpAny_call (SlX.run_at (us := [.ref a, .ref b]) (ws := [.ref a, .ref b]) F.ok hr.in1 I.env0.in1 passNo I (.cons rfl (.cons rfl .nil)) q)) (fun w s' z => ?_) fun _ _ x => x)
  obtain ⟨z', H', I', rz, k', ek, qz⟩ := z
  subst ek
  cases (show w = Value.bool k' from rz)
  exact ⟨k', rfl, .bl (!k'), H', I', rfl, qz⟩
def eqA (cf : Cf) (f cn : Nat) (neg : Bool) (d e : D) (S : Sto) : Res D := match d, e with
  | .obj c fs, .obj c' fs' => if c = cn ∧ c' = cn then (cf f [.obj c fs, .obj c' fs'] S).nox.bind fun z S2 => (match z with
    | .bl k => .ok (.bl (if neg = true then !k else k)) S2
    | _ => .stuck) else .stuck
  | d, e => if neg = true then oNe d e S else oEq d e S
theorem OpR.or {op : Value → Value → Sem Value} {r r' : R2} (h : OpR X op r) (h' : OpR X op r') : OpR X op (fun x y H Q => r x y H Q ∨ r' x y H Q) := by
  intro pins s σ H x y v u Q I rx ry q
  rcases q with q | q
  · exact h pins s σ H x y v u Q I rx ry q
  · exact h' pins s σ H x y v u Q I rx ry q
theorem l2_eqA {cf : Cf} {f cn : Nat} (neg : Bool) {r1 r2 : R2} (hK : Z.K.K = X.K) (h1 : ∀ {g : Gd} {j : Nat → Addr} {σ : Sl} {S : Sto} {σV : L2.St} {H : Hp} {x y : V} {d e : D} {Q : VK}, RelZ Z g j σ S σV H → RL (wz Z g j σ S σV H) d x → RL (wz Z g j σ S σV H) e y → OutR Z g j σ S σV H RD Q (if neg = true then oNe d e S else oEq d e S) → r1 x y H Q)
    (h2 : ∀ {g : Gd} {j : Nat → Addr} {σ : Sl} {S : Sto} {σV : L2.St} {H : Hp} {x y : V} {fs fs' : List D} {Q : VK}, RelZ Z g j σ S σV H → RD (wz Z g j σ S σV H) (.obj cn fs) x → RD (wz Z g j σ S σV H) (.obj cn fs') y → OutR Z g j σ S σV H RD Q ((cf f [.obj cn fs, .obj cn fs'] S).nox.bind fun z S2 => (match z with
      | .bl k => .ok (.bl (if neg = true then !k else k)) S2
      | _ => .stuck)) → r2 x y H Q)
    {σV : L2.St} {H : Hp} {Q : VK} (h : lE Z (x2 (eqA cf f cn neg) ma mb) σV H Q) : tOp (fun x y H Q => r1 x y H Q ∨ r2 x y H Q) (lB Z ma) (lB Z mb) σV H Q := by
  obtain ⟨g, j, σ, S, R, h⟩ := h
  refine ⟨g, j, σ, S, R, OutR.bind (fun d S1 j1 v H1 R1 s1 rd h1' => ⟨g, j1, σ, S1, R1, OutR.bind (fun e S2 j2 u H2 R2 s2 re h2' => ?_) h1'⟩) h⟩
  have rd := (rd.mono R1 s2).rsv R2
  have re := re.rsv R2
  generalize rsv S2 d = d at rd h2'
  generalize rsv S2 e = e at re h2'
  by_cases ho : ∃ c fs c' fs', d = .obj c fs ∧ e = .obj c' fs'
  · obtain ⟨c, fs, c', fs', rfl, rfl⟩ := ho
    simp only [eqA] at h2'
    by_cases hc : c = cn ∧ c' = cn
    · rw [if_pos hc] at h2'
      obtain ⟨rfl, rfl⟩ := hc
      exact .inr (h2 R2 (rd.rd (by intro _ z; cases z)) (re.rd (by intro _ z; cases z)) h2')
    · rw [if_neg hc] at h2'; exact h2'.elim
  · have e1 : eqA cf f cn neg d e S2 = if neg = true then oNe d e S2 else oEq d e S2 := by
      unfold eqA
      split
      · exact absurd ⟨_, _, _, _, rfl, rfl⟩ ho
      · rfl
    rw [e1] at h2'
    exact .inl (h1 R2 rd re h2')
section
variable {cf : Cf} {f cn k : Nat} {fa : Addr}
theorem eq1 {g : Gd} {j : Nat → Addr} {σ : Sl} {S : Sto} {σV : L2.St} {H : Hp} {x y : V} {d e : D} {Q : VK} (hK : Z.K.K = X.K) (R : RelZ Z g j σ S σV H) (rd : RL (wz Z g j σ S σV H) d x) (re : RL (wz Z g j σ S σV H) e y) (h : OutR Z g j σ S σV H RD Q (if false = true then oNe d e S else oEq d e S)) : rEqA X.K x y H Q :=
  pr_eq Z g j σ S σV H x y d e Q hK R rd re h
theorem ne1 {g : Gd} {j : Nat → Addr} {σ : Sl} {S : Sto} {σV : L2.St} {H : Hp} {x y : V} {d e : D} {Q : VK} (hK : Z.K.K = X.K) (R : RelZ Z g j σ S σV H) (rd : RL (wz Z g j σ S σV H) d x) (re : RL (wz Z g j σ S σV H) e y) (h : OutR Z g j σ S σV H RD Q (if true = true then oNe d e S else oEq d e S)) : rNeA X.K x y H Q :=
  pr_ne Z g j σ S σV H x y d e Q hK R rd re h
theorem eq2 {g : Gd} {j : Nat → Addr} {σ : Sl} {S : Sto} {σV : L2.St} {H : Hp} {x y : V} {fs fs' : List D} {Q : VK} (R : RelZ Z g j σ S σV H) (rd : RD (wz Z g j σ S σV H) (.obj cn fs) x) (re : RD (wz Z g j σ S σV H) (.obj cn fs') y) (h : OutR Z g j σ S σV H RD Q ((cf f [.obj cn fs, .obj cn fs'] S).nox.bind fun z S2 => (match z with
      | .bl k => .ok (.bl (if false = true then !k else k)) S2
      | _ => .stuck))) : SlX.rOwn X.K (Z.K.cl cn) (CallSp Z.K cf f 2) noE x y H Q := by
  obtain ⟨a, dx, vs, rfl, hs, r⟩ := rd.of_obj
  obtain ⟨a', dx', vs', rfl, hs', r'⟩ := re.of_obj
  refine ⟨a, dx, vs.map some, a', _, dx', vs'.map some, rfl, rfl, hs, hs', by simp [PySem.W.notFirst], callSp_nox R (.cons rd (.cons re .nil)) rfl (OutR.bind (fun z S2 j2 zv H2 R2 s2 rz h2 => ?_) h)⟩
  cases z with
  | bl k => exact h2 j2 zv H2 R2 Stp.refl rz
  | _ => exact h2.elim
theorem ne2 {g : Gd} {j : Nat → Addr} {σ : Sl} {S : Sto} {σV : L2.St} {H : Hp} {x y : V} {fs fs' : List D} {Q : VK} (R : RelZ Z g j σ S σV H) (rd : RD (wz Z g j σ S σV H) (.obj cn fs) x) (re : RD (wz Z g j σ S σV H) (.obj cn fs') y) (h : OutR Z g j σ S σV H RD Q ((cf f [.obj cn fs, .obj cn fs'] S).nox.bind fun z S2 => (match z with
      | .bl k => .ok (.bl (if true = true then !k else k)) S2
      | _ => .stuck))) : ∃ a dx vs b dy ws, x = .ref a ∧ y = .ref b ∧ SlX.Slt H a (Z.K.cl cn) dx vs ∧ SlX.Slt H b (Z.K.cl cn) dy ws ∧ CallSp Z.K cf f 2 [x, y] H (fun z H' => ∃ q, z = .bl q ∧ Q (.bl (!q)) H') noE := by
  obtain ⟨a, dx, vs, rfl, hs, r⟩ := rd.of_obj
  obtain ⟨a', dx', vs', rfl, hs', r'⟩ := re.of_obj
  refine ⟨a, dx, vs.map some, a', dx', vs'.map some, rfl, rfl, hs, hs', callSp_nox R (.cons rd (.cons re .nil)) rfl (OutR.bind (fun z S2 j2 zv H2 R2 s2 rz h2 => ?_) h)⟩
  cases z with
  | bl k => exact ⟨k, rz.of_bl, h2 j2 _ H2 R2 Stp.refl (.bl _)⟩
  | _ => exact h2.elim
theorem de_eqA (F : OwnF X Z.K (Z.K.cl cn) cf k "__eq__" fa f 2) (hr : Room (k + 5) X.A) (ha : DB X Z a ma) (hb : DB X Z b mb) (hm : behindInMarks .Eq b = false) (hK : Z.K.K = X.K := by rfl) : DE X Z (.Compare a [.Eq] [b] pos) (x2 (eqA cf f cn false) ma mb) :=
  PE.imp (pe_cmpR (OpR.or (op_eqE (by have := hr.un; omega)) (SlX.op_own (op := .Eq) (fun _ _ => rfl) F.at_ F.fn F.ok (hr.mono (by omega)) passNo)) ha hb hm) fun σV H Q h => l2_eqA false hK (eq1 hK) eq2 h
theorem dt_eqA (F : OwnF X Z.K (Z.K.cl cn) cf k "__eq__" fa f 2) (hr : Room (k + 5) X.A) (ha : DB X Z a ma) (hb : DB X Z b mb) (hm : behindInMarks .Eq b = false) (hK : Z.K.K = X.K := by rfl) : DT X Z (.Compare a [.Eq] [b] pos) (tE (x2 (eqA cf f cn false) ma mb)) :=
  PT.imp (pt_cmpR (OpR.or (op_eqE (by have := hr.un; omega)) (SlX.op_own (op := .Eq) (fun _ _ => rfl) F.at_ F.fn F.ok (hr.mono (by omega)) passNo)) ha hb hm) fun σV H Q h => l2_eqA false hK (eq1 hK) eq2 (lT_of h)
theorem de_neA (F : OwnF X Z.K (Z.K.cl cn) cf k "__eq__" fa f 2) (hne : PySem.W.findIn X.K (.ref (Z.K.cl cn)) "__ne__" = some (some (.builtin "object.__ne__"))) (hmo : PySem.W.mroIn X.K (Z.K.cl cn) (.type "object") = some true) (hr : Room (k + 5) X.A) (ha : DB X Z a ma) (hb : DB X Z b mb) (hm : behindInMarks .NotEq b = false) (hK : Z.K.K = X.K := by rfl) : DE X Z (.Compare a [.NotEq] [b] pos) (x2 (eqA cf f cn true) ma mb) :=
  PE.imp (pe_cmpR (OpR.or (op_neE (by have := hr.un; omega)) (op_neOwn F hne hmo (hr.mono (by omega)))) ha hb hm) fun σV H Q h => l2_eqA true hK (ne1 hK) ne2 h
theorem dt_neA (F : OwnF X Z.K (Z.K.cl cn) cf k "__eq__" fa f 2) (hne : PySem.W.findIn X.K (.ref (Z.K.cl cn)) "__ne__" = some (some (.builtin "object.__ne__"))) (hmo : PySem.W.mroIn X.K (Z.K.cl cn) (.type "object") = some true) (hr : Room (k + 5) X.A) (ha : DB X Z a ma) (hb : DB X Z b mb) (hm : behindInMarks .NotEq b = false) (hK : Z.K.K = X.K := by rfl) : DT X Z (.Compare a [.NotEq] [b] pos) (tE (x2 (eqA cf f cn true) ma mb)) :=
  PT.imp (pt_cmpR (OpR.or (op_neE (by have := hr.un; omega)) (op_neOwn F hne hmo (hr.mono (by omega)))) ha hb hm) fun σV H Q h => l2_eqA true hK (ne1 hK) ne2 (lT_of h)
end
end Qi
namespace Qi
open PySem PySem.Spec L2 PyProof.Rows
section
variable {m : Ex}
theorem isl1 {f : D → Sto → Res D} (h : ∀ d S d' S', f d S = .ok d' S' → ∃ ds, d' = .lst ds) : ∀ σ S d S', x1 f m σ S = .ok d S' → ∃ ds, d = .lst ds := fun σ S d S' e => by
  unfold x1 Res.bind at e
  split at e
  · exact h _ _ _ _ e
  · cases e
  · cases e
theorem l_list : ∀ d S d' S', oList d S = .ok d' S' → ∃ ds, d' = .lst ds := fun d S d' S' e => by
  cases d <;> first | (cases e; done) | (cases e; exact ⟨_, rfl⟩)
theorem l_rev : ∀ d S d' S', oRev d S = .ok d' S' → ∃ ds, d' = .lst ds := fun d S d' S' e => by
  cases d <;> first | (cases e; done) | (cases e; exact ⟨_, rfl⟩)
theorem l_sortSet : ∀ d S d' S', oSortSet d S = .ok d' S' → ∃ ds, d' = .lst ds := fun d S d' S' e => by
  unfold oSortSet at e
  split at e
  · split at e
    · cases e; exact ⟨_, rfl⟩
    · cases e
  · cases e
theorem l_rg {mi : Ag} : ∀ σ S d S', xRgL mi σ S = .ok d S' → ∃ ds, d = .lst ds := fun σ S d S' e => by
  unfold xRgL Res.bind at e
  split at e
  · cases e; exact ⟨_, rfl⟩
  · cases e
  · cases e
/-- sorted of ints or of pairs of ints -/
def oSortA (d : D) (S : Sto) : Res D := match d with
  | .lst l => match dInts l with
    | some ns => .ok (.lst ((srtI ns).map D.int)) S
    | none => oSortP (.lst l) S
  | .tup l => oSortU (.tup l) S
  | _ => .stuck
theorem l_sortA : ∀ d S d' S', oSortA d S = .ok d' S' → ∃ ds, d' = .lst ds := fun d S d' S' e => by
  unfold oSortA at e
  split at e
  · split at e
    · cases e; exact ⟨_, rfl⟩
    · simp only [oSortP] at e
      split at e
      · cases e; exact ⟨_, rfl⟩
      · simp only [oSortT] at e
        split at e
        · cases e; exact ⟨_, rfl⟩
        · simp only [oSortD] at e
          split at e
          · cases e; exact ⟨_, rfl⟩
          · cases e
  · simp only [oSortU] at e
    split at e
    · cases e; exact ⟨_, rfl⟩
    · cases e
  · cases e
theorem pr_sortAF {K : PySem.W.Frag} : Pr1F K (r1 (fun xs H Q => rSortedI K xs H Q ∨ (rSortPA K xs H Q ∨ rSortTD K xs H Q) ∨ rSortU K xs H Q)) oSortA := by
  intro Z g j σ S σV H x d Q hK R hd h
  cases d with
  | lst l =>
    simp only [oSortA] at h
    cases q : dInts l with
    | none => rw [q] at h; exact .inr (.inl (pr_sortPF Z g j σ S σV H x _ Q hK R hd h))
    | some ns => rw [q] at h; exact .inl (pr_sortIF Z g j σ S σV H x _ Q hK R hd (by simp only [oSortI, q]; exact h))
  | tup l => exact .inr (.inr (pr_sortUF Z g j σ S σV H x _ Q hK R hd h))
  | _ => exact h.elim
theorem cr_sortA {X : Cx} (hu : X.A.units + 8 < cLine) : CallR X (.builtin "sorted") (fun xs H Q => rSortedI X.K xs H Q ∨ (rSortPA X.K xs H Q ∨ rSortTD X.K xs H Q) ∨ rSortU X.K xs H Q) := CallR.or cr_sortedI (CallR.or (CallR.or cr_sortPA (cr_sortTD hu)) cr_sortU)
end
section
variable {X : Cx} {pos : Pos}
theorem par2 {i j : Nat} {x y : Str} {a b : Expr} {ta : TA} {px py pt : Pos} {kt k2 pt2} (hN : X.N.Nodup) (ha : PA X [a, b] ta) (hij : i ≠ j := by decide) (hc : X.calm = true := by rfl) (hi : X.N[i]? = some x := by rfl) (hj : X.N[j]? = some y := by rfl)
    (hx : Loc X.env.scope x := by first | exact .inl rfl | exact .inr rfl) (hy : Loc X.env.scope y := by first | exact .inl rfl | exact .inr rfl) (fx : X.fn x = true ∨ X.env.scope.names.lookup x = some .local := by first | exact .inl rfl | exact .inr rfl) (fy : X.fn y = true ∨ X.env.scope.names.lookup y = some .local := by first | exact .inl rfl | exact .inr rfl)
    (hw : swappedStores [.Tuple [.Name x px, .Name y py] kt pt] (.Tuple [a, b] k2 pt2) X.env = pure (some [x, y]) := by rfl)
    (hs : swapsWithSole [.Tuple [.Name x px, .Name y py] kt pt] (.Tuple [a, b] k2 pt2) pos.line X.env = pure false := by rfl) :
    PS X (.Assign [.Tuple [.Name x px, .Name y py] kt pt] (.Tuple [a, b] k2 pt2) pos) (tPar i j ta) := by
  refine ⟨fun pins s σ H D I h => ?_⟩
  rw [exec_Assign_arm]
  refine wpAny_bind (wpAny_standAt ?_)
  rw [hs]
  refine wpAny_bind (wpAny_pure ?_)
  rw [if_neg (by decide)]
  refine wpAny_bind (Tuple_ (thn (ha.run _ pins s σ H _ I h) fun us s1 ⟨vs, H1, I1, r1, q1⟩ => ?_))
  obtain ⟨v, w, e1, q1⟩ := q1
  subst e1
  obtain ⟨u1, u2, rfl, rv, rw'⟩ := r1.two
  refine wpAny_newObj_type ?_ (by show 2 ≤ sizeLine; decide)
  have I2 : Inv X pins σ H1 { s1 with heap := s1.heap.push { cls := .type "tuple", data := .seq [u1, u2].toArray } } := I1.kept (t' := s1.toks) fun b o e => Heap.get?_push_of_some _ e
  rw [hw]
  refine wpAny_bind (wpAny_pure ?_)
  show wpAny (model X.prog X.w) X.A (do rule "assign.swapped-stores"; let items ← unpackItems (.ref s1.heap.objs.size) 2 none; assignInOrder [fun v => bindName X.env y v, fun v => bindName X.env x v] items.reverse; pure Flow.next) _ _ _
  refine wpAny_bind (wpAny_rule (wpAny_bind (unpackItems_tuple (items := #[u1, u2]) (I.ok.hd hc) (IsTup.new s1.heap _) fun h' hx' => ?_)))
  have I3 := I2.kept (h' := h') (t' := s1.toks) fun b o e => hx' b o (Nat.ne_of_lt (Heap.lt_size e)) e
  show wpAny _ _ (assignInOrder [fun v => bindName X.env y v, fun v => bindName X.env x v] [u2, u1] >>= fun _ => pure Flow.next) _ _ _
  refine wpAny_bind (assignInOrder_cons (wpAny_bindName (store_ok I3 hN hj hy rw' (fun s2 I4 => ?_) fy)))
  refine assignInOrder_cons (wpAny_bindName (store_ok I4 hN hi hx rv (fun s3 I5 => assignInOrder_nil (wpAny_pure ?_)) fx))
  rw [List.set_comm _ _ (Ne.symm hij)] at I5
  exact ⟨_, H1, I5, q1⟩
theorem par3 {i j l : Nat} {x y z : Str} {a b c : Expr} {ta : TA} {px py pz pt : Pos} {kt k2 pt2} (hN : X.N.Nodup) (ha : PA X [a, b, c] ta) (hij : i ≠ j := by decide) (hil : i ≠ l := by decide) (hjl : j ≠ l := by decide) (hc : X.calm = true := by rfl) (hi : X.N[i]? = some x := by rfl) (hj : X.N[j]? = some y := by rfl) (hl : X.N[l]? = some z := by rfl)
    (hx : Loc X.env.scope x := by first | exact .inl rfl | exact .inr rfl) (hy : Loc X.env.scope y := by first | exact .inl rfl | exact .inr rfl) (hz : Loc X.env.scope z := by first | exact .inl rfl | exact .inr rfl)
    (fx : X.fn x = true ∨ X.env.scope.names.lookup x = some .local := by first | exact .inl rfl | exact .inr rfl) (fy : X.fn y = true ∨ X.env.scope.names.lookup y = some .local := by first | exact .inl rfl | exact .inr rfl) (fz : X.fn z = true ∨ X.env.scope.names.lookup z = some .local := by first | exact .inl rfl | exact .inr rfl)
    (hw : swappedStores [.Tuple [.Name x px, .Name y py, .Name z pz] kt pt] (.Tuple [a, b, c] k2 pt2) X.env = pure (some [x, y, z]) := by rfl)
    (hs : swapsWithSole [.Tuple [.Name x px, .Name y py, .Name z pz] kt pt] (.Tuple [a, b, c] k2 pt2) pos.line X.env = pure false := by rfl) :
    PS X (.Assign [.Tuple [.Name x px, .Name y py, .Name z pz] kt pt] (.Tuple [a, b, c] k2 pt2) pos) (tPar3 i j l ta) := by
  refine ⟨fun pins s σ H D I h => ?_⟩
  rw [exec_Assign_arm]
  refine wpAny_bind (wpAny_standAt ?_)
  rw [hs]
  refine wpAny_bind (wpAny_pure ?_)
  rw [if_neg (by decide)]
  refine wpAny_bind (Tuple_ (thn (ha.run _ pins s σ H _ I h) fun us s1 ⟨vs, H1, I1, r1, q1⟩ => ?_))
  obtain ⟨v1, v2, v3, e1, q1⟩ := q1
  subst e1
  cases r1 with
  | cons rv1 r1 =>
  rename_i u1 us _
  obtain ⟨u2, u3, rfl, rv2, rv3⟩ := (show Vals [v2, v3] us from r1).two
  refine wpAny_newObj_type ?_ (by show 3 ≤ sizeLine; decide)
  have I2 : Inv X pins σ H1 { s1 with heap := s1.heap.push { cls := .type "tuple", data := .seq [u1, u2, u3].toArray } } := I1.kept (t' := s1.toks) fun b o e => Heap.get?_push_of_some _ e
  rw [hw]
  refine wpAny_bind (wpAny_pure ?_)
  show wpAny (model X.prog X.w) X.A (do rule "assign.swapped-stores"; let items ← unpackItems (.ref s1.heap.objs.size) 3 none; assignInOrder [fun v => bindName X.env z v, fun v => bindName X.env y v, fun v => bindName X.env x v] items.reverse; pure Flow.next) _ _ _
  refine wpAny_bind (wpAny_rule (wpAny_bind (unpackItems_tuple (items := #[u1, u2, u3]) (I.ok.hd hc) (IsTup.new s1.heap _) fun h' hx' => ?_)))
  have I3 := I2.kept (h' := h') (t' := s1.toks) fun b o e => hx' b o (Nat.ne_of_lt (Heap.lt_size e)) e
  show wpAny _ _ (assignInOrder [fun v => bindName X.env z v, fun v => bindName X.env y v, fun v => bindName X.env x v] [u3, u2, u1] >>= fun _ => pure Flow.next) _ _ _
  refine wpAny_bind (assignInOrder_cons (wpAny_bindName (store_ok I3 hN hl hz rv3 (fun s2 I4 => ?_) fz)))
  refine assignInOrder_cons (wpAny_bindName (store_ok I4 hN hj hy rv2 (fun s3 I5 => ?_) fy))
  refine assignInOrder_cons (wpAny_bindName (store_ok I5 hN hi hx rv1 (fun s4 I6 => assignInOrder_nil (wpAny_pure ?_)) fx))
  have e : ((σ.set l (some v3)).set j (some v2)).set i (some v1) = ((σ.set i (some v1)).set j (some v2)).set l (some v3) := by
    rw [List.set_comm (some v2) (some v1) (Ne.symm hij), List.set_comm (some v3) (some v1) (Ne.symm hil), List.set_comm (some v3) (some v2) (Ne.symm hjl)]
  rw [e] at I6
  exact ⟨_, H1, I6, q1⟩
variable {Z : Env1}
theorem df_LC {elt tg iter : Expr} {ifs : List Expr} {scope : Scope} {mi : Ag} {t : Tgt} {c : Ts} {m : Ex} (own : List (Str × Nat)) (hN : X.N.Nodup) (hi : DI X Z tg iter mi)
    (hg : ∀ (s : Shared) (H : Hp) (C : Addr) (cl : List (Str × Addr)) (fp : List Addr), PG (X.blk s H scope (compEnvC scope cl C X.env) fp) tg (gT X.K t)) (ht : ∀ (s : Shared) (H : Hp) (C : Addr) (cl : List (Str × Addr)) (fp : List Addr), PTs (X.blk s H scope (compEnvC scope cl C X.env) fp) ifs (lT Z.no c))
    (he : ∀ (s : Shared) (H : Hp) (C : Addr) (cl : List (Str × Addr)) (fp : List Addr), DE (X.blk s H scope (compEnvC scope cl C X.env) fp) Z.no elt m)
    (ok : blkC X.N X.env.scope scope own = true := by rfl) (hv : ∀ i ∈ tgS t, i ∈ own.map (·.2) := by decide) (hl : ∀ i ∈ own.map (·.2), Z.lin i = false := by decide) (hc : X.calm = true := by rfl) (hs : ∀ x, foldedSetIterable iter X.env x = pure x := by intro _; rfl) (hK : Z.K.K = X.K := by rfl) :
    DF X Z (.ListComp elt [⟨tg, iter, ifs, 0⟩] scope pos) (xLc mi t c m (own.map (·.2))) :=
  df_lc (pe_lc hc hN hi (blkOk_by ok) hg ht he hs) hv hl hK
theorem df_LCB {elt tg : Expr} {y : Str} {yp : Pos} {ifs : List Expr} {scope : Scope} {i0 : Nat} {t : Tgt} {c : Ts} {m : Ex} (own : List (Str × Nat)) (hN : X.N.Nodup) (hi : PE X (.Name y yp) (tVar i0)) (hi0 : Z.lin i0 = true)
    (hg : ∀ (s : Shared) (H : Hp) (C : Addr) (cl : List (Str × Addr)) (fp : List Addr), PG (X.blk s H scope (compEnvC scope cl C X.env) fp) tg (gT X.K t)) (ht : ∀ (s : Shared) (H : Hp) (C : Addr) (cl : List (Str × Addr)) (fp : List Addr), PTs (X.blk s H scope (compEnvC scope cl C X.env) fp) ifs (lT Z.no c))
    (he : ∀ (s : Shared) (H : Hp) (C : Addr) (cl : List (Str × Addr)) (fp : List Addr), DE (X.blk s H scope (compEnvC scope cl C X.env) fp) Z.no elt m)
    (ok : blkC X.N X.env.scope scope own = true := by rfl) (hv : ∀ i ∈ tgS t, i ∈ own.map (·.2) := by decide) (hl : ∀ i ∈ own.map (·.2), Z.lin i = false := by decide) (hc : X.calm = true := by rfl) (hs : ∀ x, foldedSetIterable (.Name y yp) X.env x = pure x := by intro _; rfl) (hK : Z.K.K = X.K := by rfl) :
    DF X Z (.ListComp elt [⟨tg, .Name y yp, ifs, 0⟩] scope pos) (xLcB i0 t c m (own.map (·.2))) :=
  df_lcB (pe_lc hc hN (pi_seq hi) (blkOk_by ok) hg ht he hs) hv hl hi0 hK
end
end Qi
namespace Qi
open PySem PySem.Spec L2 PyProof.Rows
def frzS (i : Nat) (σ : Sl) : Sl := match σ[i]? with
  | some (some (.lst l)) => σ.set i (some (.clo 1 [.lst l]))
  | _ => σ
section
variable {K : Kx} {lin : Nat → Bool} {g : Gd} {j : Nat → Addr} {σ : Sl} {S : Sto} {σV : L2.St} {H : Hp} {i : Nat} {l : List D}
theorem linA_frz (e1 : σ[i]? = some (some (.lst l))) {k : Nat} {a : Addr} (h : LinA lin (σ.set i (some (.clo 1 [.lst l]))) σV k a) : k ≠ i ∧ LinA lin σ σV k a := by
  obtain ⟨h1, ⟨d, h2, ho⟩, h3⟩ := h
  by_cases e : k = i
  · subst e
    rw [List.getElem?_set_self (List.getElem?_eq_some_iff.mp e1).1] at h2
    cases h2
    cases ho
  · rw [List.getElem?_set_ne (Ne.symm e)] at h2
    exact ⟨e, h1, ⟨d, h2, ho⟩, h3⟩
theorem le_frz (e1 : σ[i]? = some (some (.lst l))) {B : Addr → Prop} : (wo K lin B j σ S σV H).Le (wo K lin B j (σ.set i (some (.clo 1 [.lst l]))) S σV H) :=
  ⟨rfl, rfl, fun a o _ e f => ⟨e, fun z => f (z.imp (fun y => y) fun y => y.imp (fun u => u) fun ⟨k, u⟩ => ⟨k, (linA_frz e1 u).2⟩)⟩, fun _ _ => rfl, Nat.le_refl _⟩
theorem Rel.frz (R : Rel K lin g j σ S σV H) (hl : lin i = true) (e1 : σ[i]? = some (some (.lst l))) : Rel K lin g j (σ.set i (some (.clo 1 [.lst l]))) S σV H := by
  have hlt := (List.getElem?_eq_some_iff.mp e1).1
  refine ⟨by rw [List.length_set, R.len], R.inj, fun k a n h => R.lc k a n (linA_frz e1 h).2, fun k k' a h h' => R.ll k k' a (linA_frz e1 h).2 (linA_frz e1 h').2, R.oc, fun k a h => R.ol k a (linA_frz e1 h).2,
    fun a z => R.trk a (z.imp (fun y => y) fun y => y.imp (fun u => u) fun ⟨k, u⟩ => ⟨k, (linA_frz e1 u).2⟩), fun k d e => ?_, fun n c e => (R.cells n c e).mono (le_frz e1) fun _ _ z => z, R.frame, R.newc, fun k a h => R.newl k a (linA_frz e1 h).2, R.n0, R.ag, R.dom, R.tabs⟩
  by_cases hk : k = i
  · subst hk
    rw [List.getElem?_set_self hlt] at e
    cases e
    obtain ⟨v, ev, _, h2⟩ := R.slots k _ e1
    refine ⟨v, ev, fun z => (by rw [hl] at z; cases z), fun _ => ?_⟩
    cases h2 hl with
    | lst hh hz r =>
      have L : LinA lin σ σV k _ := ⟨hl, ⟨_, e1, rfl⟩, ev⟩
      refine .frz (.lst hh (fun z => ?_) hz (r.mono (le_frz e1)))
      rcases z with z | ⟨n, hn, z⟩ | ⟨q, z⟩
      · exact R.ol k _ L z
      · exact R.lc k _ n L hn z
      · exact (linA_frz e1 z).1 (R.ll q k _ (linA_frz e1 z).2 L)
  · rw [List.getElem?_set_ne (Ne.symm hk)] at e
    obtain ⟨v, ev, h1, h2⟩ := R.slots k d e
    exact ⟨v, ev, fun z => (h1 z).mono (le_frz e1), fun z => (h2 z).mono (le_frz e1) fun _ _ _ _ _ z => z⟩
end
def cFrz (i : Nat) (m : Co) : Co := fun σ S => m (frzS i σ) S
theorem ds_frz {X : Cx} {Z : Env1} {sts : List Stmt} {m : Co} {i : Nat} (h : DSs X Z sts m) (hl : Z.lin i = true := by rfl) : DSs X Z sts (cFrz i m) := PSs.imp h fun D σV H h => by
  obtain ⟨g, j, σ, S, R, h⟩ := h
  unfold cFrz frzS at h
  split at h
  · rename_i l e1
    exact ⟨g, j, _, S, R.frz hl e1, OutC.le (le_frz e1) h⟩
  · exact ⟨g, j, σ, S, R, h⟩
def xVF (i : Nat) : Ex := fun σ S => match σ[i]? with
  | some (some (.clo 1 [.lst l])) => .ok (.lst l) S
  | _ => .stuck
theorem de_vf {X : Cx} {Z : Env1} {e : Expr} {i : Nat} (h : PE X e (tVar i)) (hl : Z.lin i = true) : DE X Z e (xVF i) := PE.imp h fun σV H Q => by
  rintro ⟨g, j, σ, S, R, h⟩
  unfold xVF at h
  split at h
  · rename_i l e1
    obtain ⟨v, ev, _, h2⟩ := R.slots i _ e1
    cases h2 hl with
    | frz r => exact ⟨v, ev, h j v H R Stp.refl r⟩
  · exact h.elim
end Qi
namespace Qi
open PySem PySem.Spec PyProof.Rows L2 LamX
/-- tables grow, all else stays -/
structure Grow (H H1 : Hp) : Prop where
  keep : ExtN H H1
  dom : ∀ b o, H b = some o → ∃ o', H1 b = some o'
theorem Grow.refl {H : Hp} : Grow H H := ⟨ExtN.refl H, fun _ o e => ⟨o, e⟩⟩
abbrev lamQ (X : Cx) : Str := X.env.qual ++ "<lambda>"
abbrev lamO (X : Cx) (params : Arguments) (body : Expr) (scope : Scope) (pm : Value) (c' : Addr) (ctv : Value) : Obj := PySem.W.kla_obj "<lambda>" (lamQ X) params body scope (cloFrom X.env.cells scope.names []) pm c' ctv
structure NewAt (X : Cx) (pins : List (Addr × Obj)) (b : Addr) : Prop where
  z : X.s_0.heap.objs.size ≤ b
  l : b ≠ X.env.locals
  c : ∀ x c, X.env.cells.lookup x = some c → c ≠ b
  p : ∀ q ∈ X.pn ++ pins, q.1 ≠ b
  f : b ∉ X.fs
section
variable {X : Cx} {pins : List (Addr × Obj)} {σ : L2.St} {H : Hp} {s : Shared}
theorem newAt_of (I : Inv X pins σ H s) {b : Addr} (h : s.heap.objs.size ≤ b) : NewAt X pins b where
  z := Nat.le_trans I.sz h
  l := fun e => by
    rw [e] at h
    exact Nat.lt_irrefl _ (Nat.lt_of_lt_of_le I.lt h)
  c := fun x c e z => by
    obtain ⟨v, o, ho, _⟩ := I.cell x c e
    rw [z] at ho
    exact Nat.lt_irrefl _ (Nat.lt_of_lt_of_le (Heap.lt_size ho) h)
  p := fun q hq z => by
    have ho := (I.pin q hq).1
    rw [z] at ho
    exact Nat.lt_irrefl _ (Nat.lt_of_lt_of_le (Heap.lt_size ho) h)
  f := I.nofs h
end
section
variable {X : Cx} {pins : List (Addr × Obj)} {σ : L2.St} {H : Hp} {s : Shared}
theorem lamMk {T : List (Addr × Str)} {c P : Addr} {params : Arguments} {body : Expr} {scope : Scope} {pos : Pos} {E Q : Value → Shared → Prop} (I : Inv X pins σ H s) (B : TabB X.base X.mg c P) (hcode : X.env.code = .ref c)
    (hm : (P, lamQ X) ∈ T) (hu : ∀ p ∈ T, p.1 = P → p.2 = lamQ X) (hT : Tabs T H) (hd : defaultsOf params X.env = ([], [])) (hfr : ∀ y ∈ scope.names, y.2 = .free → ∃ c, X.env.cells.lookup y.1 = some c)
    (h : ∀ (f c' : Addr) (pm ctv : Value) (H1 : Hp) (s1 : Shared), Inv X pins σ H1 s1 → Grow H H1 → Tabs T H1 → s1.heap.get? f = some (lamO X params body scope pm c' ctv) → H1 f = none → NewAt X pins f → H1 c' = some (CodeO c' (lamQ X)) → Q (.ref f) s1) :
    wpAny (model X.prog X.w) X.A (eval (.Lambda params body scope pos) X.env) Q E s := by
  obtain ⟨ps, tP, tOk, tAll⟩ := hT _ hm
  have oP : s.heap.get? P = some { cls := .none, data := .fields ps } := I.hok P _ tP
  have gl := I.mod.glob.keeps I.bk
  have bP := B.bm.keeps I.bk
  refine PySem.W.kla_eval hd ?_
  rcases hc : codeAmong pos ps.toList with _ | cv
  · refine PySem.W.kla_makeFunction (closure_ok hfr) I.ok.glob gl hcode (B.code.keeps I.bk) oP tOk hc B.gP bP fun c' ctv h' tk hx hge hlt hrec htb => ?_
    obtain ⟨c2, oc, vs, t, e2, hoc, hdt, hv⟩ := hrec
    cases e2
    have nC : H c' = none := I.hok.fresh hge
    have nPC : P ≠ c' := ne_of_none tP nC
    let more : Array Value := #[rawInt pos.line, rawInt pos.col, .ref c']
    let H1 : Hp := upd (upd H P (.tbl (ps ++ more))) c' (CodeO c' (lamQ X))
    have I1 : Inv X pins σ H1 _ := inv_table (t' := tk) (more := more) (h' := h'.push (lamO X params body scope ((X.mg "__name__").getD .none) c' ctv)) I tP (fun b o hb e => Heap.get?_push_of_some _ (hx b o hb e)) (Heap.get?_push_of_some _ htb) hge ⟨oc, vs, t, Heap.get?_push_of_some _ hoc, hdt, hv⟩
    have oth : ∀ b o, H b = some o → b ≠ P → H1 b = some o := fun b o e n => by
      show upd (upd H P _) c' _ b = _
      rw [upd_ne (ne_of_none e nC), upd_ne n]; exact e
    have atP : H1 P = some (.tbl (ps ++ more)) := by
      show upd (upd H P _) c' _ P = _
      rw [upd_ne nPC, upd_same]
    have gr : Grow H H1 := ⟨fun b o e n => oth b o e fun z => n ps (by rw [z, tP] at e; exact (Option.some.inj e).symm), fun b o e => by
      by_cases hb : b = P
      · exact ⟨_, by rw [hb]; exact atP⟩
      · exact ⟨o, oth b o e hb⟩⟩
    have eL : (ps ++ more).toList = ps.toList ++ [rawInt pos.line, rawInt pos.col, .ref c'] := by simp [more]
    have hsz : s.heap.objs.size ≤ h'.objs.size := Nat.le_trans hge (Nat.le_of_lt hlt)
    refine h h'.objs.size c' _ ctv H1 _ I1 gr (fun p hp => ?_) (Heap.get?_push_size _ rfl) ?_ (newAt_of I hsz) upd_same
    · by_cases hb : p.1 = P
      · refine ⟨_, by rw [hb]; exact atP, by rw [eL]; exact PySem.TriplesOk_snoc _ _ _ _ tOk, fun p' w hw => ?_⟩
        rw [eL] at hw
        rw [hu p hp hb]
        rcases among_app _ tOk hw with z | z
        · obtain ⟨c0, e1, e2⟩ := tAll p' w z
          exact ⟨c0, e1, gr.keep _ _ e2 codeO_ne⟩
        · exact ⟨c', z, upd_same⟩
      · obtain ⟨qs, a1, a2, a3⟩ := hT p hp
        exact ⟨qs, oth _ _ a1 hb, a2, fun p' w hw => (a3 p' w hw).imp fun c0 z => ⟨z.1, gr.keep _ _ z.2 codeO_ne⟩⟩
    · show upd (upd H P _) c' _ h'.objs.size = _
      rw [upd_ne (Nat.ne_of_gt hlt), upd_ne (Nat.ne_of_gt (Nat.lt_of_lt_of_le (Heap.lt_size oP) hsz))]
      exact I.hok.fresh hsz
  · obtain ⟨c', e, hco⟩ := tAll pos cv hc
    subst e
    exact PySem.W.kla_makeFunctionHit (closure_ok hfr) I.ok.glob gl hcode (B.code.keeps I.bk) oP tOk hc bP fun ctv h' tk hx hsz =>
      h h'.objs.size c' ((X.mg "__name__").getD .none) ctv H _ (I.kept (t' := tk) fun b o e => Heap.get?_push_of_some _ (hx b o e)) .refl hT (Heap.get?_push_size _ rfl) (I.hok.fresh hsz) (newAt_of I hsz) hco
end
structure Lam1 (sc scope : Scope) (x : Str) : Prop where
  kind : scope.kind = .function
  co : scope.isCoroutine = false
  gen : scope.isGenerator = false
  par : scope.names.lookup x = some .local
  own : ∀ y ∈ scope.names, y.2 ≠ .cell ∧ (y.2 = .local → y.1 = x)
  free : ∀ y ∈ scope.names, y.2 = .free → sc.names.lookup y.1 = some .cell ∨ sc.names.lookup y.1 = some .free
def lam1B (sc scope : Scope) (x : Str) : Bool :=
  decide (scope.kind = .function) && !scope.isCoroutine && !scope.isGenerator && decide (scope.names.lookup x = some .local) && scope.names.all fun y => !decide (y.2 = .cell) && (!decide (y.2 = .local) || decide (y.1 = x)) && (!decide (y.2 = .free) || decide (sc.names.lookup y.1 = some .cell) || decide (sc.names.lookup y.1 = some .free))
theorem lam1_by {sc scope : Scope} {x : Str} (h : lam1B sc scope x = true) : Lam1 sc scope x := by
  unfold lam1B at h
  simp only [Bool.and_eq_true, Bool.or_eq_true, Bool.not_eq_true', decide_eq_true_eq, decide_eq_false_iff_not, List.all_eq_true] at h
  obtain ⟨⟨⟨⟨h1, h2⟩, h3⟩, h4⟩, h5⟩ := h
  refine ⟨h1, h2, h3, h4, fun y hy => ⟨(h5 y hy).1.1, fun e => (h5 y hy).1.2.resolve_left fun z => z e⟩, fun y hy e => ?_⟩
  rcases (h5 y hy).2 with (z | z) | z
  · exact absurd e z
  · exact .inl z
  · exact .inr z
section
variable {X : Cx} {pins : List (Addr × Obj)} {σ : L2.St} {H : Hp} {s : Shared}
theorem Lam1.has {scope : Scope} {x : Str} (L : Lam1 X.env.scope scope x) (ok : X.Ok) : ∀ y ∈ scope.names, y.2 = .free → ∃ c, X.env.cells.lookup y.1 = some c := fun y hy e => ok.has _ (L.free y hy e)
theorem lam1_start {A : Around} {outer : List Env} {E : XK} {scope : Scope} {f c' : Addr} {h₁ : Heap} {tk i : Nat} {x : Str} {v : V} {u : Value} (I : Inv X pins σ H s) (L : Lam1 X.env.scope scope x) (e0 : Env0 X.prog X.w X.K X.mg X.base A outer s H) (hd : A.handled = none)
    (nd : X.N.Nodup) (hi : X.N[i]? = some x) (rv : RelV v u) (hns : h₁.Ns s.heap.objs.size fun y => ([(x, u)] : List (Str × Value)).reverse.lookup y) (kp : ∀ b o, s.heap.get? b = some o → h₁.get? b = some o) :
    Inv (lamCx X A outer s H E scope f c') [] (σ.set i (some v)) H { s with heap := h₁, toks := tk } := by
  have hf := L.has I.ok
  have cm : ∀ {y c}, (cloFrom X.env.cells scope.names []).lookup y = some c → X.env.cells.lookup y = some c := fun {y c} e => by
    rcases cloFrom_mem (PySem.mem_of_lookup e) with hm | ⟨h1, h2⟩
    · cases hm
    · obtain ⟨c1, hc⟩ := hf _ h1 rfl
      have hc' : X.env.cells.lookup y = some c1 := hc
      rw [h2]
      show X.env.cells.lookup y = some ((X.env.cells.lookup y).getD 0)
      rw [hc']; rfl
  have look : ∀ {y}, scope.names.lookup y = some .free → ∃ c, (cloFrom X.env.cells scope.names []).lookup y = some c := fun {y} hl => mem_lookup (cloFrom_has (cells := X.env.cells) (acc := []) (PySem.mem_of_lookup hl))
  have cellK : ∀ {c : Addr} {w : Option Value}, s.heap.IsCell c w → h₁.IsCell c w := fun {c w} ⟨o, ho, hd⟩ => ⟨o, kp _ _ ho, hd⟩
  have noA : ∀ b : Addr, b ∉ ([] : List Addr) := fun b z => nomatch z
  refine ⟨⟨e0.mod, L.kind, rfl, rfl, Nat.le_refl _, fun y z c e1 e2 => I.ok.inj y z c (cm e1) (cm e2), fun y hy => ?_, fun y c z _ => (nomatch (show false = true from z)), fun _ => hd, Around.frames_deeper e0.frames, .inr ⟨rfl, rfl⟩, fun b z => absurd z (noA b), e0.bs, e0.bsz, fun b _ _ => noA b, fun b z => absurd z (noA b), e0.funs, e0.frf⟩,
    rfl, e0.bare, Un.kept kp, ⟨_, hns, fun n y v' e1 e2 e3 => ?_⟩, fun y c e => ?_, e0.hok.fresh (Nat.le_refl _), fun y c e => I.freeC y c (cm e), fun q hq => absurd (show q ∈ ([] : List (Addr × Obj)) ++ [] from hq) (by simp), e0.hok.kept kp, by rw [List.length_set]; exact I.len⟩
  · rcases (show scope.names.lookup y = some .cell ∨ scope.names.lookup y = some .free from hy) with hy | hy
    · exact absurd rfl (L.own _ (PySem.mem_of_lookup hy)).1
    · exact look hy
  · have e1 : X.N[n]? = some y := e1
    rcases (show Vis scope y from e3) with k | k | k
    · obtain rfl : y = x := (L.own _ (PySem.mem_of_lookup k)).2 rfl
      obtain rfl := nodup_ix nd e1 hi
      have hl : n < σ.length := by
        rw [I.len]
        exact (List.getElem?_eq_some_iff.mp e1).1
      rw [List.getElem?_set_self hl] at e2
      cases e2
      exact ⟨u, rv, .inl ⟨k, by show List.lookup y [(y, u)] = _; simp [List.lookup]⟩⟩
    · exact absurd rfl (L.own _ (PySem.mem_of_lookup k)).1
    · have hni : i ≠ n := fun z => by
        subst z
        rw [hi] at e1
        cases e1
        rw [L.par] at k
        cases k
      rw [List.getElem?_set_ne hni] at e2
      obtain ⟨m, hn, hl⟩ := I.loc
      have fr := L.free _ (PySem.mem_of_lookup k) rfl
      obtain ⟨w', r, q⟩ := hl n y v' e1 e2 (fr.elim (fun z => .inr (.inl z)) fun z => .inr (.inr z))
      obtain ⟨c2, h2⟩ := look k
      refine ⟨w', r, .inr ⟨.inr k, c2, h2, ?_⟩⟩
      rcases q with ⟨k', _⟩ | ⟨_, c3, e', z⟩
      · have k' : X.env.scope.names.lookup y = some .local := k'
        rcases fr with k2 | k2 <;> rw [show X.env.scope.names.lookup y = _ from k2] at k' <;> cases k'
      · rw [cm h2] at e'
        cases e'
        exact cellK z
  · obtain ⟨w', z⟩ := I.cell y c (cm e)
    exact ⟨w', cellK z⟩
theorem no_raise {P : Program} {w : World} {outer : List Env} {H : Hp} {s : Shared} {e : Value} {s' : Shared} (z : L2.CX P w outer H s (fun _ _ _ => False) e s') : False := by
  obtain ⟨_, _, _, _, _, _, _, _, _, _, _, _, _, _, _, _, zz⟩ := z
/-- f(u), f a lambda with the parameter x, called within the call of a built-in -/
theorem call_lam1 {scope : Scope} {params : Arguments} {body : Expr} {f c' : Addr} {pm ctv : Value} {i k : Nat} {x : Str} {v : V} {u : Value} {tb : TE} {Q : VK} (A : Around) (hA : A.frames = X.A.frames) (I : Inv X pins σ H s) (L : Lam1 X.env.scope scope x) (nd : X.N.Nodup) (hi : X.N[i]? = some x)
    (hf : s.heap.get? f = some (lamO X params body scope pm c' ctv)) (hc : H c' = some (CodeO c' (lamQ X))) (hb : ∀ (q : Str) (cl : List (Str × Addr)) (pm cv ctv : Value), bindArgs (PySem.W.kla_fn "<lambda>" q params body scope cl pm cv ctv) ⟨[u], []⟩ = pure [(x, u)])
    (hr : ∀ env, Room k (A.deeper env)) (hdp : A.depth < recursionLimit) (hh : A.handled = none) (rv : RelV v u) (hbody : PE (lamCx X A X.stack s H (fun _ _ _ => False) scope f c') body tb) (ht : tb (σ.set i (some v)) H Q) :
    wpAny (model X.prog X.w) A (call (.ref f) [u]) (EP X pins σ Q) (fun _ _ => False) s := by
  have e0' := I.env0
  have e0 : Env0 X.prog X.w X.K X.mg X.base A X.stack s H := ⟨hA.trans e0'.frames, e0'.mod, e0'.bs, e0'.bsz, e0'.funs, e0'.frf, e0'.hok, e0'.bare⟩
  obtain ⟨⟨oc, vs, t, hoc, hdc, hvc⟩, _, _⟩ := I.hok c' _ hc
  have rc : codeAny (model X.prog X.w) A (.call (.ref f) ⟨[u], []⟩) (CR (L2.CX X.prog X.w) X.stack X.prog X.w H s Q (fun _ _ _ => False)) s := by
    refine PySem.W.kla_callFunE hdp hf rfl L.co L.gen rfl ⟨c', oc, vs, t, rfl, hoc, hdc, hvc⟩ ?_
    rw [hb]
    refine wpAny_pure (wpAny_newFunctionEnv (fun y hy => (L.own y hy).1) (fun y hy => by
      obtain rfl : y = (x, u) := by simpa using hy
      exact L.par) (fun h₁ hns hsb => ⟨I.nolimit.fresh _ hsb, ?_⟩) L.kind)
    have kp : ∀ b o, s.heap.get? b = some o → h₁.get? b = some o := fun b o e => hsb.extBut b o (Nat.ne_of_lt (Heap.lt_size e)) (Heap.get?_push_of_some _ e)
    have J : Inv (lamCx X A X.stack s H (fun _ _ _ => False) scope f c') [] (σ.set i (some v)) H { s with heap := h₁, toks := s.toks + ([(x, u)] : List (Str × Value)).length } := lam1_start I L e0 hh nd hi rv hns kp
    refine PySem.W.kla_codeExpr (wpAny_mono (hbody.run [] _ _ H Q J ht) (fun v' s' hq => ?_) fun e s' hq => hq)
    obtain ⟨w', H', J', rv', q⟩ := hq
    exact ⟨w', H', J'.os, J'.bare, J'.base, J'.hok, rv', q⟩
  refine wpAny_call (codeAny_mono rc fun r s' hq => ?_)
  cases r with
  | error e => exact no_raise hq
  | ok fl =>
    cases fl with
    | ret u => exact I.after hq
    | _ => exact False.elim hq
end
end Qi
namespace Qi
open PySem PySem.Spec PyProof.Rows L2 LamX
section
variable {X : Cx} {pins : List (Addr × Obj)} {σ : L2.St} {H : Hp} {s : Shared}
theorem inv_chg {ch : List Addr} {h' : Heap} {t' : Nat} (I : Inv X pins σ H s) (hn : ∀ b ∈ ch, H b = none ∧ NewAt X pins b) (k : ∀ b o, b ∉ ch → s.heap.get? b = some o → h'.get? b = some o) : Inv X pins σ H { s with heap := h', toks := t' } := by
  have off : ∀ b u, H b = some u → b ∉ ch := fun b u e z => by
    rw [(hn b z).1] at e; cases e
  have offL : X.env.locals ∉ ch := fun z => (hn _ z).2.l rfl
  refine I.step (g' := s.gens) (d' := s.drawn) (ch := ch) (fun b hb => ⟨.inr (hn b hb).2.z, (hn b hb).2.l, (hn b hb).2.c, (hn b hb).2.p⟩) (fun b o _ _ hb e _ => k b o hb e) (fun b o _ _ hb e _ => ⟨o.slots, k b o hb e⟩) (fun b o _ _ n => n) (fun b o hb e => ⟨o, k b o hb e⟩)
    (fun _ _ e => e) (fun _ _ _ e => e) (fun _ ps e => ⟨#[], by rw [e]; simp⟩) (fun m hm => ?_) (fun b u e => ?_) I.bare
  · obtain ⟨ob, es, ep, ho, r⟩ := hm
    exact ⟨ob, es, ep, k _ ob offL ho, r⟩
  · exact (I.hok b u e).stay (fun d v hd q => k d v (by
      rcases hd with rfl | hd
      · exact off _ u e
      · exact off _ _ hd) q) (fun d q => q) fun d xs q => q
/-- such an object gets known -/
theorem inv_track {a : Addr} {o : HO} (I : Inv X pins σ H s) (hn : H a = none) (N : NewAt X pins a) (new : ObjOk X.prog X.w (upd H a o) s.heap a o) : Inv X pins σ (upd H a o) s := by
  have oth : ∀ b u, H b = some u → upd H a o b = some u := fun b u e => by rw [upd_ne (ne_of_none e hn)]; exact e
  have q := I.step (h' := s.heap) (H' := upd H a o) (g' := s.gens) (d' := s.drawn) (t' := s.toks) (ch := [a]) (fun b hb => by
      obtain rfl : b = a := by simpa using hb
      exact ⟨.inr N.z, N.l, N.c, N.p⟩) (fun b o _ _ _ e _ => e) (fun b o _ _ _ e _ => ⟨o.slots, e⟩) (fun b o' hb _ n => by rw [upd_ne (by simpa using hb)]; exact n) (fun b o _ e => ⟨o, e⟩)
    (fun b xs e => oth b _ e) (fun b u v e => oth b _ e) (fun b ps e => ⟨#[], by rw [oth b _ e]; simp⟩) (fun m hm => hm) (fun b u e => ?_) I.bare
  · exact q
  · by_cases hb : b = a
    · rw [hb, upd_same] at e
      cases e
      rw [hb]
      exact new
    · rw [upd_ne hb] at e
      exact (I.hok b u e).stay (fun d v _ z => z) (fun d z => oth d _ z) fun d xs z => oth d _ z
theorem inv_pins {pins' : List (Addr × Obj)} (I : Inv X pins σ H s) (h : ∀ p ∈ pins', p ∈ pins ∨ (s.heap.get? p.1 = some p.2 ∧ H p.1 = none ∧ p.1 ≠ X.env.locals ∧ p.1 ∉ X.fs ∧ ∀ v, p.2.data ≠ .cell v)) : Inv X pins' σ H s :=
  I.pins_of fun p hp => (h p hp).elim (fun z => I.pin p (List.mem_append_right _ z)) id
theorem NewAt.sub {pins' : List (Addr × Obj)} {b : Addr} (N : NewAt X pins b) (h : ∀ q ∈ pins', q ∈ pins ∨ q.1 ≠ b) : NewAt X pins' b :=
  ⟨N.z, N.l, N.c, fun q hq => (List.mem_append.mp hq).elim (fun z => N.p q (List.mem_append_left _ z)) fun z => (h q z).elim (fun y => N.p q (List.mem_append_right _ y)) id, N.f⟩
end
section
variable {X : Cx} {pins : List (Addr × Obj)} {σ : L2.St} {H : Hp} {s : Shared}
abbrev lobj (xs : Array Value) (e : Nat) : Obj := seqObj "list" xs e
theorem lobj_nc {xs : Array Value} {e : Nat} : ∀ v, (lobj xs e).data ≠ .cell v := fun _ z => nomatch z
theorem ints_reads {h : Heap} : ∀ {vs : List Value} {ns : List Int}, IntsAre vs ns → PySem.W.EachIs (fun v d => ∃ as, Reads h v d as) vs (ns.map PyData.int)
  | _, _, .nil => .nil
  | _, _, .cons n t r => .cons ⟨[], .int n t⟩ (ints_reads r)
theorem ints_alike (ns : List Int) : PySem.W.AllAlike (ns.map PyData.int) := fun d hd d' hd' => by
  obtain ⟨n, _, rfl⟩ := List.mem_map.mp hd
  obtain ⟨m, _, rfl⟩ := List.mem_map.mp hd'
  rfl
theorem ints_sortable (ns : List Int) : PySem.W.Sortable (ns.map PyData.int) := .inr fun d hd => by
  obtain ⟨n, _, rfl⟩ := List.mem_map.mp hd
  exact ⟨(fun z => nomatch z), fun xs z => nomatch z⟩
theorem keyTree {A : Around} {a f : Addr} {fo : Obj} {vs : List Value} {kz : List Int} {n : Nat} {Pi : Nat → Hp → Prop} {R : PySem.Fin → Shared → Prop} {E : Value → Shared → Prop}
    (I : Inv X ((f, fo) :: pins) σ H s) (Na : NewAt X ((f, fo) :: pins) a) (hna : H a = none) (ho : s.heap.get? a = some (lobj vs.toArray n)) (hz : vs.length ≤ sizeLine) (hlen : kz.length = vs.length) (hu : A.units + 10 < cLine) (p0 : Pi 0 H)
    (turn : ∀ (i : Nat) (u : Value) (m : Int), vs[i]? = some u → kz[i]? = some m → ∀ (pins' : List (Addr × Obj)) (H' : Hp) (s' : Shared), Inv X ((f, fo) :: pins') σ H' s' → Pi i H' →
      wpAny (model X.prog X.w) A (call (.ref f) [u]) (EP X ((f, fo) :: pins') σ (fun v H2 => v = .int m ∧ Pi (i + 1) H2)) (fun _ _ => False) s')
    (fin : ∀ (H' : Hp) (s' : Shared) (out : List Value) (c : Nat), Inv X ((f, fo) :: pins) σ H' s' → Pi vs.length H' → H' a = none → s'.heap.get? a = some (lobj out.toArray c) → PySem.W.KeyedOut false (kz.map PyData.int) vs out → R (.done (.ret .none)) s') :
    wpAny (model X.prog X.w) A (PyProof.Rows.ksk_tree a (.ref f) false) R E s := by
  obtain ⟨e1, ho1⟩ : ∃ e1, (s.heap.update a (Obj.mapSeq fun _ => (#[] : Array Value))).get? a = some (lobj #[] e1) := ⟨_, get?_update_seq ho fun _ => #[]⟩
  have ha : a < s.heap.objs.size := Heap.lt_size ho
  have sb := Heap.SameBut.update s.heap a (Obj.mapSeq fun _ => (#[] : Array Value))
  let h2 : Heap := (s.heap.update a (Obj.mapSeq fun _ => (#[] : Array Value))).push (seqObj "tuple" vs.toArray 0)
  let kS : Addr := h2.objs.size
  let h3 : Heap := h2.push (lobj #[] 0)
  have z2 : h2.objs.size = s.heap.objs.size + 1 := by
    show ((s.heap.update a _).push _).objs.size = _
    rw [size_push', Heap.size_update]
  have hka : kS ≠ a := by
    show h2.objs.size ≠ a
    rw [z2]; exact Nat.ne_of_gt (Nat.lt_succ_of_lt ha)
  have I2 : Inv X ((f, fo) :: pins) σ H { s with heap := h2, toks := s.toks } := inv_chg (ch := [a]) I (fun b hb => by
    obtain rfl : b = a := by simpa using hb
    exact ⟨hna, Na⟩) fun b o hb e => Heap.get?_push_of_some _ ((sb.2 b (by simpa using hb)).trans e)
  have Nk : NewAt X ((f, fo) :: pins) kS := newAt_of I2 (Nat.le_refl _)
  have hk0 : H kS = none := I2.hok.fresh (Nat.le_refl _)
  have I3 : Inv X ((f, fo) :: pins) σ H { s with heap := h3, toks := s.toks } := I2.kept fun b o e => Heap.get?_push_of_some _ e
  have oa3 : h3.get? a = some (lobj #[] e1) := Heap.get?_push_of_some _ (Heap.get?_push_of_some _ ho1)
  have ok3 : h3.get? kS = some (lobj #[] 0) := Heap.get?_push_size _ rfl
  unfold PyProof.Rows.ksk_tree
  refine wpAny_bind (listItems_at ho rfl ?_)
  refine wpAny_bind (listUpdate_at ho rfl ?_ (by rw [List.size_toArray]; exact hz) (Nat.zero_le _))
  refine wpAny_bind (seqEpoch_at ho1 rfl ?_)
  refine wpAny_bind (wpAny_newTuple ?_ (by show vs.length ≤ _; exact hz))
  refine wpAny_bind (wpAny_newList ?_ (Nat.zero_le _))
  refine wpAny_holding ?_
  show wpAny _ A (PyProof.Rows.ksk_rest a (.ref f) false vs.toArray e1 (.ref kS)) R E { s with heap := h3, toks := s.toks }
  unfold PyProof.Rows.ksk_rest
  refine wpAny_bind (wpAny_rule ?_)
  rw [List.forIn_toArray]
  refine wpAny_bind (PyProof.Rows.ksk_fold (fun i s' => ∃ (H' : Hp) (ks : Array Value) (e : Nat), IntsAre ks.toList (kz.take i) ∧ Inv X ((f, fo) :: (a, lobj #[] e1) :: (kS, lobj ks e) :: pins) σ H' s' ∧ Pi i H') vs 0 _ ⟨H, #[], 0, by rw [List.take_zero]; exact .nil, ?_, p0⟩ ?step ?done)
  · refine inv_pins I3 fun p hp => ?_
    rcases List.mem_cons.mp hp with rfl | hp
    · exact .inl List.mem_cons_self
    · rcases List.mem_cons.mp hp with rfl | hp
      · exact .inr ⟨oa3, hna, Na.l, Na.f, lobj_nc⟩
      · rcases List.mem_cons.mp hp with rfl | hp
        · exact .inr ⟨ok3, hk0, Nk.l, Nk.f, lobj_nc⟩
        · exact .inl (List.mem_cons_of_mem _ hp)
  case step =>
    rintro j u s' hu' ⟨H', ks, e, hk, J, pj⟩
    simp only [Nat.zero_add] at hk pj ⊢
    have hj : j < vs.length := (List.getElem?_eq_some_iff.mp hu').1
    obtain ⟨m, hm⟩ : ∃ m, kz[j]? = some m := ⟨_, List.getElem?_eq_getElem (by omega)⟩
    refine wpAny_bind (wpAny_attempt (wpAny_mono (turn j u m hu' hm _ H' s' J pj) (fun v s2 he => ?_) fun _ _ hF => hF.elim))
    obtain ⟨v', H2, J2, rv, rfl, p2⟩ := he
    obtain ⟨t, rfl⟩ := rv
    have pk := J2.pin (kS, lobj ks e) (List.mem_append_right _ (by simp))
    have nk2 : s2.heap.get? kS = some (lobj ks e) := pk.1
    have hkz : ks.size ≤ vs.length := by
      have h1 := hk.length
      rw [Array.length_toList, List.length_take] at h1
      omega
    try dsimp only
    refine wpAny_bind (listUpdate_at nk2 rfl ?_ (Nat.le_trans hkz hz) (Nat.le_trans (Nat.le_of_eq (Array.size_push ..)) (Nat.succ_le_succ (Nat.le_trans hkz hz))))
    have sk := Heap.SameBut.update s2.heap kS (Obj.mapSeq (·.push (Value.int m t)))
    obtain ⟨c2, hc2⟩ : ∃ c2, (s2.heap.update kS (Obj.mapSeq (·.push (Value.int m t)))).get? kS = some (lobj (ks.push (.int m t)) c2) := ⟨_, get?_update_seq nk2 (·.push (Value.int m t))⟩
    refine wpAny_pure ⟨rfl, H2, ks.push (.int m t), c2, ?_, ?_, p2⟩
    · have ek : kz.take (j + 1) = kz.take j ++ [m] := by rw [List.take_add_one, hm]; simp
      rw [ek, Array.toList_push]
      exact PyProof.Rows.ksk_snoc hk
    · have J3 : Inv X ((f, fo) :: (a, lobj #[] e1) :: pins) σ H2 s2 := inv_pins J2 fun p hp => .inl (by
        rcases List.mem_cons.mp hp with rfl | hp
        · exact List.mem_cons_self
        · rcases List.mem_cons.mp hp with rfl | hp
          · simp
          · exact List.mem_cons_of_mem _ (List.mem_cons_of_mem _ (List.mem_cons_of_mem _ hp)))
      have N3 : NewAt X ((f, fo) :: (a, lobj #[] e1) :: pins) kS := Nk.sub fun q hq => by
        rcases List.mem_cons.mp hq with rfl | hq
        · exact .inl List.mem_cons_self
        · rcases List.mem_cons.mp hq with rfl | hq
          · exact .inr hka.symm
          · exact .inl (List.mem_cons_of_mem _ hq)
      have J4 : Inv X ((f, fo) :: (a, lobj #[] e1) :: pins) σ H2 { s2 with heap := s2.heap.update kS (Obj.mapSeq (·.push (Value.int m t))), toks := s2.toks } := inv_chg (ch := [kS]) J3 (fun b hb => by
        obtain rfl : b = kS := by simpa using hb
        exact ⟨pk.2.1, N3⟩) fun b o hb e => (sk.2 b (by simpa using hb)).trans e
      refine inv_pins J4 fun p hp => ?_
      rcases List.mem_cons.mp hp with rfl | hp
      · exact .inl List.mem_cons_self
      · rcases List.mem_cons.mp hp with rfl | hp
        · exact .inl (by simp)
        · rcases List.mem_cons.mp hp with rfl | hp
          · exact .inr ⟨hc2, pk.2.1, Nk.l, Nk.f, lobj_nc⟩
          · exact .inl (List.mem_cons_of_mem _ (List.mem_cons_of_mem _ hp))
  case done =>
    rintro s' ⟨H', ks, e, hk, J, pj⟩
    rw [Nat.zero_add] at hk pj
    rw [List.take_of_length_le (by omega)] at hk
    have pk := J.pin (kS, lobj ks e) (List.mem_append_right _ (by simp))
    have pa := J.pin (a, lobj #[] e1) (List.mem_append_right _ (by simp))
    have nk : s'.heap.get? kS = some (lobj ks e) := pk.1
    have hsz : ks.size = vs.length := by
      have h1 := hk.length
      rw [Array.length_toList] at h1
      omega
    have rd := ints_reads (h := s'.heap) hk
    obtain ⟨G, g1, g2⟩ := restrict s'.heap fun b => decide (b ≠ kS)
    have gs : ∀ b o, G.get? b = some o → s'.heap.get? b = some o := fun b o q => by
      by_cases hb : b = kS
      · rw [hb, g2 kS (by simp)] at q; cases q
      · rw [← g1 b (decide_eq_true hb)]; exact q
    try dsimp only
    refine wpAny_bind (listItems_at nk rfl ?_)
    refine PySem.W.keyH_end (κ := PySem.W.dataKind s'.heap (kz.map PyData.int)) (h₁ := G) (fun b o _ q => gs b o q) (g2 kS (by simp)) nk pa.1 hka (PySem.W.SortsAt.data rd (ints_alike kz) (ints_sortable kz) fun d hd => ?_) hsz hz fun h' tk c kb hD => ?_
    · obtain ⟨m, _, rfl⟩ := List.mem_map.mp hd
      exact Nat.lt_of_le_of_lt (Nat.add_le_add_left (show (PyData.int m).depth ≤ 10 by simp [PyData.depth]) _) hu
    · have J3 : Inv X ((f, fo) :: pins) σ H' s' := inv_pins J fun p hp => .inl (by
        rcases List.mem_cons.mp hp with rfl | hp
        · exact List.mem_cons_self
        · exact List.mem_cons_of_mem _ (List.mem_cons_of_mem _ (List.mem_cons_of_mem _ hp)))
      refine fin H' _ _ c (inv_chg (ch := [a, kS]) J3 (fun b hb => ?_) fun b o hb q => kb b o (fun z => hb (by simp [z])) ((g1 b (decide_eq_true fun z => hb (by simp [z]))).trans q)) pj pa.2.1 hD ⟨s'.heap, ks.toList, ints_alike kz, rfl, rd⟩
      rcases List.mem_cons.mp hb with rfl | hb
      · exact ⟨pa.2.1, Na⟩
      · obtain rfl : b = kS := by simpa using hb
        exact ⟨pk.2.1, Nk⟩
end
end Qi
namespace Qi
open PySem PySem.Spec PyProof.Rows L2 LamX
section
variable {K : Kx} {lin : Nat → Bool} {g : Gd} {j : Nat → Addr} {σ : Sl} {S : Sto} {σV : L2.St} {H H1 : Hp}
theorem Grow.stp (h : Grow H H1) : Stp j S.length H j S.length H1 := ⟨fun a o t e _ => h.keep a o e t, fun _ _ => rfl, Nat.le_refl _, fun n h1 h2 => absurd h2 (by omega), h.dom⟩
theorem Rel.grow (R : Rel K lin g j σ S σV H) (h : Grow H H1) (t : Tabs K.tb H1) : Rel K lin g j σ S σV H1 where
  len := R.len
  inj := R.inj
  lc := R.lc
  ll := R.ll
  oc := R.oc
  ol := R.ol
  trk := fun a z => by
    obtain ⟨o, e⟩ := R.trk a z
    exact h.dom a o e
  slots := fun i d e => by
    obtain ⟨v, ev, h1, h2⟩ := R.slots i d e
    exact ⟨v, ev, fun z => (h1 z).mono h.stp.wle, fun z => (h2 z).mono h.stp.wle fun a o _ _ n q => h.keep a o q n⟩
  cells := fun n c e => (R.cells n c e).mono h.stp.wle fun o t q => h.keep _ o q t
  frame := fun a o t h1 h2 => h.keep a o (R.frame a o t h1 h2) t
  newc := R.newc
  newl := R.newl
  n0 := R.n0
  ag := R.ag
  dom := fun a o e => by
    obtain ⟨o', e'⟩ := R.dom a o e
    exact h.dom a o' e'
  tabs := t
end
def keysL (i : Nat) (mb : Ex) (σ : Sl) : List D → Sto → Res (List Int)
  | [], S => .ok [] S
  | d :: r, S => match mb (σ.set i (some d)) S with
    | .ok (.int n) S1 => (match keysL i mb σ r S1 with
      | .ok ns S2 => .ok (n :: ns) S2
      | _ => .stuck)
    | _ => .stuck
theorem keysL_cons {i : Nat} {mb : Ex} {σ : Sl} {d : D} {r : List D} {S S2 : Sto} {ns : List Int} (h : keysL i mb σ (d :: r) S = .ok ns S2) : ∃ n ns' S1, ns = n :: ns' ∧ mb (σ.set i (some d)) S = .ok (.int n) S1 ∧ keysL i mb σ r S1 = .ok ns' S2 := by
  unfold keysL at h
  split at h
  · rename_i n S1 e
    split at h
    · rename_i ns' S3 e2
      cases h
      exact ⟨n, ns', S1, rfl, e, e2⟩
    · cases h
  · cases h
theorem keysL_len {i : Nat} {mb : Ex} {σ : Sl} : ∀ {ds : List D} {S S2 : Sto} {ns : List Int}, keysL i mb σ ds S = .ok ns S2 → ns.length = ds.length
  | [], _, _, _, h => by cases h; rfl
  | d :: r, _, _, _, h => by
    obtain ⟨n, ns', S1, rfl, _, e2⟩ := keysL_cons h
    rw [List.length_cons, List.length_cons, keysL_len e2]
def leK (x y : D × Int) : Bool := decide (x.2 ≤ y.2)
def srtK (l : List (D × Int)) : List D := (l.mergeSort leK).map (·.1)
def xSortK (i : Nat) (me mb : Ex) : Ex := fun σ S => (me σ S).bind fun d S1 => match rsv S1 d with
  | .lst ds => (match keysL i mb σ ds S1 with
    | .ok ns S2 => .ok (.lst (srtK (ds.zip ns))) S2
    | _ => .stuck)
  | _ => .stuck
theorem xSortK_lst {i : Nat} {me mb : Ex} : ∀ σ S d S', xSortK i me mb σ S = .ok d S' → ∃ ds, d = .lst ds := fun σ S d S' h => by
  unfold xSortK at h
  cases q : me σ S with
  | ok x S1 =>
    rw [q] at h
    simp only [Res.bind] at h
    split at h
    · split at h
      · cases h; exact ⟨_, rfl⟩
      · cases h
    · cases h
  | exc x S1 => rw [q] at h; cases h
  | stuck => rw [q] at h; cases h
theorem dataLe_int : PySem.W.dataLe false (fun b : D × Int => PyData.int b.2) = leK := by
  funext x y
  show (!PyProof.Rows.lexLt PyProof.Rows.itemOrd [.inl y.2] [.inl x.2]) = decide (x.2 ≤ y.2)
  have e : PyProof.Rows.lexLt PyProof.Rows.itemOrd [.inl y.2] [.inl x.2] = decide (y.2 < x.2) := by
    unfold PyProof.Rows.lexLt
    show (decide (y.2 < x.2) || (!decide (x.2 < y.2) && false)) = _
    simp
  rw [e]
  by_cases h : x.2 ≤ y.2
  · rw [decide_eq_true h, decide_eq_false (by omega)]; rfl
  · rw [decide_eq_false h, decide_eq_true (by omega)]; rfl
/-- what a def must have where lambdas are made -/
structure LamF (X : Cx) (Z : Env1) : Prop where
  ex : ∃ c P, X.env.code = .ref c ∧ TabB X.base X.mg c P ∧ (P, lamQ X) ∈ Z.K.tb ∧ ∀ p ∈ Z.K.tb, p.1 = P → p.2 = lamQ X
theorem each_vals {w : Wo} : ∀ {out : List Value} {bs : List (D × Int)}, PySem.W.EachIs (fun u b => ∃ v, RelV v u ∧ RD w b.1 v) out bs → ∃ vs, Vals vs out ∧ RDs w (bs.map (·.1)) vs
  | _, _, .nil => ⟨[], .nil, .nil⟩
  | _, _, .cons ⟨v, r, d⟩ t => by
    obtain ⟨vs, h1, h2⟩ := each_vals t
    exact ⟨v :: vs, .cons r h1, .cons d h2⟩
theorem vals_each {w : Wo} : ∀ {its : List Value} {vs : List V} {ds : List D} {ns : List Int}, Vals vs its → RDs w ds vs → ns.length = ds.length → PySem.W.EachIs (fun u (b : D × Int) => ∃ v, RelV v u ∧ RD w b.1 v) its (ds.zip ns)
  | _, _, _, ns, .nil, .nil, _ => by rw [List.zip_nil_left]; exact .nil
  | _, _, _, [], .cons r t, .cons d t2, h => by cases h
  | _, _, _, n :: ns, .cons r t, .cons d t2, h => by
    rw [List.zip_cons_cons]
    exact .cons ⟨_, r, d⟩ (vals_each t t2 (by simpa using h))
theorem vals_get {vs : List V} {us : List Value} (h : Vals vs us) : ∀ {i : Nat} {u : Value}, us[i]? = some u → ∃ v, vs[i]? = some v ∧ RelV v u := by
  induction h with
  | nil => intro i u e; simp at e
  | cons r t ih =>
    intro i u e
    cases i with
    | zero => simp only [List.getElem?_cons_zero, Option.some.injEq] at e ⊢; subst e; exact ⟨_, rfl, r⟩
    | succ i => simp only [List.getElem?_cons_succ] at e ⊢; exact ih e
section
variable {X : Cx} {Z : Env1}
theorem room_lam {k : Nat} {A : Around} (r : Room (k + 1) A) (env : Env) : Room k (A.in1.in1.deeper env) :=
  ⟨r.hd, by have := r.dp; show A.depth + 1 + 3 * k + 5 < _; omega, by have := r.un; show A.units + 1 + 1 + 3 + 16 * k + 200 < _; omega⟩
theorem df_sortK {p pos lpos kpos : Pos} {e body : Expr} {scope : Scope} {params : Arguments} {i k : Nat} {x : Str} {me mb : Ex} (hg : Gl X "sorted") (hm : X.mg "sorted" = none) (ha : DB X Z e me) (hs : starEach [e] X.env = (false, eval e X.env) :: starEach [] X.env) (F : LamF X Z) (L : Lam1 X.env.scope scope x) (nd : X.N.Nodup)
    (hi : X.N[i]? = some x) (hl : Z.lin i = false) (hd : defaultsOf params X.env = ([], [])) (hb : ∀ (q : Str) (cl : List (Str × Addr)) (pm cv ctv u : Value), bindArgs (PySem.W.kla_fn "<lambda>" q params body scope cl pm cv ctv) ⟨[u], []⟩ = pure [(x, u)]) (hr : Room (k + 1) X.A)
    (hbody : ∀ (s : Shared) (H : Hp) (f c' : Addr), Room k (X.A.in1.in1.deeper (lamEnv X scope s.heap.objs.size f c')) → DE (lamCx X X.A.in1.in1 X.stack s H (fun _ _ _ => False) scope f c') Z.no body mb) (hK : Z.K.K = X.K) :
    DF X Z (.Call (.Name "sorted" p) [e] [⟨some "key", .Lambda params body scope lpos, kpos⟩] pos) (xSortK i me mb) := by
  refine ⟨fun pins s σV H Q I h => ?_⟩
  obtain ⟨g, j, σ, S, R, h⟩ := h
  let fK : D → Sto → Res D := fun d S1 => match rsv S1 d with
    | .lst ds => (match keysL i mb σ ds S1 with
      | .ok ns S2 => .ok (.lst (srtK (ds.zip ns))) S2
      | _ => .stuck)
    | _ => .stuck
  let W : List V → Hp → Prop := fun us H1 => ∃ v d S1 j1, us = [v] ∧ RelZ Z g j1 σ S1 σV H1 ∧ RB (wz Z g j1 σ S1 σV H1) d v ∧ OutF Z g j1 σ S1 σV H1 Q (fK d S1)
  have h0 : OutR Z g j σ S σV H RB (fun v H1 => tNil σV H1 fun vs H2 => W (v :: vs) H2) (me σ S) :=
    OutF.bind (f := fK) (fun d S1 j1 v H1 R1 s1 rb h1 => ⟨v, d, S1, j1, rfl, R1, rb, h1⟩) h
  have hv : bootBuiltins ("sorted" : Str) = some (.builtin "sorted") := by decide +kernel
  refine wpAny_Call_Name_kw (ld_blt I hg hm hv ?_ (by decide +kernel) (by decide +kernel))
  refine PyProof.Rows.callWith_kw (thn ((pa_cons ha pa_nil hs).run pos pins s σV H W I ⟨g, j, σ, S, R, h0⟩) fun us s1 ⟨vs, H1, I1, r1, q1⟩ => ?_) (by rw [hs]; rfl) (by rw [hs]; rfl) rfl rfl
  obtain ⟨v, d, S1, j1, rfl, R1, rb, h1⟩ := q1
  obtain ⟨c, P, hcode, TB, hmT, huT⟩ := F.ex
  show wpAny _ _ (evalAll [do let v ← eval (.Lambda params body scope lpos) X.env; standAt pos; pure v]) _ _ _
  refine wpAny_evalAll_cons (wpAny_bind (lamMk I1 TB hcode hmT huT R1.tabs hd (L.has I1.ok) fun f c' pm ctv H2 s2 I2 gr T2 hf hfn hfr hco => wpAny_bind (wpAny_standAt (wpAny_pure (wpAny_evalAll_nil ?_)))))
  have rl := rb.rsv R1
  -- a list
  cases hd1 : rsv S1 d with
  | lst ds =>
    rw [hd1] at rl
    cases hk : keysL i mb σ ds S1 with
    | ok ns S2 =>
      have h2 : OutF Z g j1 σ S1 σV H1 Q (.ok (.lst (srtK (ds.zip ns))) S2) := by
        have e : fK d S1 = .ok (.lst (srtK (ds.zip ns))) S2 := by
          show (match rsv S1 d with | .lst ds => (match keysL i mb σ ds S1 with | .ok ns S2 => (.ok (.lst (srtK (ds.zip ns))) S2 : Res D) | _ => .stuck) | _ => .stuck) = _
          rw [hd1]
          show (match keysL i mb σ ds S1 with | .ok ns S2 => (.ok (.lst (srtK (ds.zip ns))) S2 : Res D) | _ => .stuck) = _
          rw [hk]
        rw [e] at h1
        exact h1
      obtain ⟨l, vs, rfl, hH, rds⟩ := rl.lst
      have hlen := rl.len
      have R2 := R1.grow gr T2
      have st1 : Stp j1 S1.length H1 j1 S1.length H2 := gr.stp (S := S1)
      have rds2 := rds.mono (st1.wle (K := Z.K) (lin := Z.lin) (B := g.B) (σ := σ) (S := S1) (S' := S1) (σV := σV))
      obtain rfl := Vals.ref1 r1
      have hH2 : H2 l = some (.lst vs) := gr.keep _ _ hH nt_lst
      obtain ⟨its, rv, hlst, hz⟩ := I2.list (.of hH2)
      have hzi : its.length ≤ sizeLine := by rw [← rv.length]; exact hz
      have hil : its.length = ds.length := by rw [← rv.length, rds.length]
      have hnl := keysL_len hk
      have I2f : Inv X ((f, lamO X params body scope pm c' ctv) :: pins) σV H2 s2 := inv_pins I2 fun q hq => by
        rcases List.mem_cons.mp hq with rfl | hq
        · exact .inr ⟨hf, hfn, hfr.l, hfr.f, fun _ z => nomatch z⟩
        · exact .inl hq
      refine PySem.W.sorted_of_sort (kw := [(Str.ofString "key", .ref f)]) hlst.isList hzi (PyProof.Rows.ksk_s1 _ _) (fun _ => PyProof.Rows.ksk_l1 _ _) fun E' => ?_
      rw [PyProof.Rows.ksk_t1]
      have I3 : Inv X ((f, lamO X params body scope pm c' ctv) :: pins) σV H2 { s2 with heap := PySem.W.copyHeap s2.heap its, toks := s2.toks } := I2f.kept fun b o q => PySem.W.copyHeap_old q
      have hna : H2 (s2.heap.objs.size + 1) = none := I2.hok.fresh (Nat.le_succ _)
      have Na : NewAt X ((f, lamO X params body scope pm c' ctv) :: pins) (s2.heap.objs.size + 1) := newAt_of I2f (Nat.le_succ _)
      have nc : ∀ n, n < S1.length → j1 n ≠ c' := fun n hn z => by
        obtain ⟨o, e1, e2⟩ := (R2.cells n _ (List.getElem?_eq_getElem hn)).plain
        have e1 : H2 (j1 n) = some o := e1
        rw [z, hco] at e1
        rw [z] at e2
        exact e2.2 _ (Option.some.inj e1).symm
      refine keyTree (kz := ns) (vs := its) (Pi := fun m H' => ∃ j' S', RelZ Z g j' σ S' σV H' ∧ Stp j1 S1.length H2 j' S'.length H' ∧ keysL i mb σ (ds.drop m) S' = .ok (ns.drop m) S2) I3 Na hna (PySem.W.copyHeap_at s2.heap its) hzi (by omega) (by have := hr.un; show X.A.units + 1 + 1 + 10 < _; omega) ⟨j1, S1, R2, .refl, hk⟩ ?_ ?_
      · rintro m u n hu hn pins' H' s' J ⟨j', S', R', st', hk'⟩
        obtain ⟨v, hv, ruv⟩ := vals_get rv hu
        obtain ⟨d', hd', rd⟩ := rds2.getV hv
        have hdr : ds.drop m = d' :: ds.drop (m + 1) := by
          have := List.drop_eq_getElem_cons (l := ds) (i := m) (List.getElem?_eq_some_iff.mp hd').1
          rw [this, (List.getElem?_eq_some_iff.mp hd').2]
        rw [hdr] at hk'
        obtain ⟨n', ns', S3, e1, e2, e3⟩ := keysL_cons hk'
        have hnr : ns.drop m = n :: ns.drop (m + 1) := by
          have := List.drop_eq_getElem_cons (l := ns) (i := m) (List.getElem?_eq_some_iff.mp hn).1
          rw [this, (List.getElem?_eq_some_iff.mp hn).2]
        rw [hnr] at e1
        injection e1 with e1 e4
        subst e1
        subst e4
        have rd' := rd.mono (st'.wle (K := Z.K) (lin := Z.lin) (B := g.B) (σ := σ) (S := S1) (S' := S') (σV := σV))
        refine call_lam1 (k := k) X.A.in1.in1 rfl J L nd hi (J.pin _ (List.mem_append_right _ List.mem_cons_self)).1 (st'.keep _ _ codeO_ne hco nc) (fun q cl pm cv ctv => hb q cl pm cv ctv u) (fun env => room_lam hr env) hr.depth hr.hd ruv (hbody s' H' f c' (room_lam hr _)) ?_
        refine ⟨g, j', σ.set i (some d'), S', R'.set hl rd', ?_⟩
        rw [e2]
        exact fun j2 v2 H3 R3 st3 rd3 => ⟨rd3.of_int, j2, S3, Rel.other R' R3 st3 (fun b a => by
          unfold LinA
          by_cases hb : b = i
          · subst hb
            rw [show Z.lin b = false from hl]
            simp
          · rw [List.getElem?_set_ne (Ne.symm hb), List.getElem?_set_ne (Ne.symm hb)]), st'.trans st3, e3⟩
      · rintro H' s' out cc J ⟨j', S', R', st', hk'⟩ hna' hD ko
        refine ⟨rfl, ?_⟩
        rw [hil, List.drop_length, ← hnl, List.drop_length] at hk'
        cases hk'
        have he := PySem.W.keyedOut_each (bs := ds.zip ns) (R := fun u (b : D × Int) => ∃ v, RelV v u ∧ RD (wz Z g j1 σ S1 σV H2) b.1 v) (fun b : D × Int => PyData.int b.2) (by
          have e : (ds.zip ns).map (fun b : D × Int => PyData.int b.2) = ns.map PyData.int := by
            have e3 : (ds.zip ns).map Prod.snd = ns := List.map_snd_zip (by omega)
            rw [show (fun b : D × Int => PyData.int b.2) = PyData.int ∘ Prod.snd from rfl, ← List.map_map, e3]
          rw [e]; exact ko) (vals_each rv rds2 hnl)
        rw [dataLe_int] at he
        obtain ⟨vs', hv', rd'⟩ := each_vals he
        have hlo : (srtK (ds.zip ns)).length ≤ sizeLine := by
          unfold srtK
          rw [List.length_map, (List.mergeSort_perm _ _).length_eq, List.length_zip]
          omega
        have hlv : vs'.length ≤ sizeLine := by rw [rd'.length]; exact hlo
        have R3 : RelZ Z (g.hold (s2.heap.objs.size + 1)) j' σ S2 σV (upd H' (s2.heap.objs.size + 1) (.lst vs')) := R'.hold hna'
        have n1 : H1 (s2.heap.objs.size + 1) = none := by
          cases q : H1 (s2.heap.objs.size + 1) with
          | none => rfl
          | some o =>
            obtain ⟨o', e'⟩ := gr.dom _ o q
            rw [hna] at e'; cases e'
        have J2 : Inv X pins σV H' s' := inv_pins J fun q hq => .inl (List.mem_cons_of_mem _ hq)
        refine ⟨.ref (s2.heap.objs.size + 1), upd H' (s2.heap.objs.size + 1) (.lst vs'), inv_track J2 hna' (Na.sub fun q hq => .inl (List.mem_cons_of_mem _ hq)) ⟨hlv, out, cc, hv', hD⟩, rfl, ?_⟩
        refine h2 j' _ vs' _ upd_same R3 ((st1.trans st').trans (Stp.alloc hna')) hlo ?_ n1
        exact (rd'.mono (st'.wle (K := Z.K) (lin := Z.lin) (B := g.B) (σ := σ) (S := S1) (S' := S2) (σV := σV))).mono (le_hold hna')
    | exc x S2 =>
      exfalso
      have e : fK d S1 = .stuck := by
        show (match rsv S1 d with | .lst ds => (match keysL i mb σ ds S1 with | .ok ns S2 => (.ok (.lst (srtK (ds.zip ns))) S2 : Res D) | _ => .stuck) | _ => .stuck) = _
        rw [hd1]
        show (match keysL i mb σ ds S1 with | .ok ns S2 => (.ok (.lst (srtK (ds.zip ns))) S2 : Res D) | _ => .stuck) = _
        rw [hk]
      rw [e] at h1
      exact h1
    | stuck =>
      exfalso
      have e : fK d S1 = .stuck := by
        show (match rsv S1 d with | .lst ds => (match keysL i mb σ ds S1 with | .ok ns S2 => (.ok (.lst (srtK (ds.zip ns))) S2 : Res D) | _ => .stuck) | _ => .stuck) = _
        rw [hd1]
        show (match keysL i mb σ ds S1 with | .ok ns S2 => (.ok (.lst (srtK (ds.zip ns))) S2 : Res D) | _ => .stuck) = _
        rw [hk]
      rw [e] at h1
      exact h1
  | _ =>
    exfalso
    have e : fK d S1 = .stuck := by
      show (match rsv S1 d with | .lst ds => (match keysL i mb σ ds S1 with | .ok ns S2 => (.ok (.lst (srtK (ds.zip ns))) S2 : Res D) | _ => .stuck) | _ => .stuck) = _
      rw [hd1]
    rw [e] at h1
    exact h1
end
end Qi
namespace Qi
open PySem PySem.Spec PyProof.Rows L2 LamX
/-- the base -/
structure BaF (B newId initId : String) (bmB : List Value) : Prop where
  fb : ExcBaseFacts B newId initId bmB
  kf : PySem.W.KxsFacts B initId
  sf : StoreFacts B bmB "object.__setattr__" "object"
/-- the statement super().__init__(text) -/
def supS (p0 p1 p2 p3 p4 p5 : Pos) (txt : Str) (kk : Nat) : Stmt := .Expr (.Call (.Attribute (.Call (.Name "super" p0) [] [] p1) "__init__" p2) [.Constant (.str txt) kk p3] [] p4) p5
/-- what is written of the class -/
structure ExK (K : PySem.W.Frag) (prog : Program) (mg : Str → Option Value) (C fI : Addr) (fd : FuncData) (body : List Stmt) (B newId initId : String) (bmB : List Value) : Prop where
  ini : PySem.W.excInitIn K C bmB newId = true
  at_ : PySem.W.findIn K (.ref C) "__init__" = some (some (.ref fI))
  fn : ∃ oc od osl, K.lookup fI = some ⟨oc, od, .func fd, osl⟩ ∧ oc = .type "function"
  bd : fd.body = .stmts body
  ar : ∃ ar, (fd.params.posonlyargs ++ fd.params.args).head? = some ar ∧ ar.arg = "self"
  cls : ∃ cc cl cld csl, fd.closure = [((Str.ofString "__class__" : Str), cc)] ∧ K.lookup cc = some ⟨cl, cld, .cell (some (.ref C)), csl⟩
  glb : fd.globals = mainGlobals ∧ fd.builtins = builtinsNs
  cod : ∃ cda ccl cdd vs ccs file tf, fd.code = .ref cda ∧ PySem.W.codeIn K (.ref cda) fd.qualname = true ∧ K.lookup cda = some ⟨ccl, cdd, .fields vs, ccs⟩ ∧ vs[2]? = some (.str file tf) ∧ ((prog.main.file : Str) == file) = true
  mro : PySem.W.mroIn K C (.ref C) = some true
  top : (prog.main.scope.names.lookup ("super" : Str)).isSome = false
  sm : mg "super" = none
  sup : PySem.W.ks_superIn K C C "__init__" = some (some (.builtin initId))
  sub : PySem.W.subIn K (.ref C) (.type B) = some true
  opq : PySem.W.nsIn K cStatics "thirdparty.any" = some none
  sc : fd.scope.kind = .function ∧ fd.scope.isCoroutine = false ∧ fd.scope.isGenerator = false ∧ (∀ x ∈ fd.scope.names, x.2 ≠ .cell) ∧ fd.scope.names.lookup ("super" : Str) = some .globalImplicit ∧ fd.scope.names.lookup ("__class__" : Str) = some .free ∧ fd.scope.names.lookup ("self" : Str) = some .local
  kp : PySem.W.keepIn K (.ref C) = true
  sa : PySem.W.findIn K (.ref C) "__setattr__" = some (some (.builtin "object.__setattr__"))
  ov : PySem.W.excOver K C bmB = true
  hd : (PySem.W.clsIn K C).any (·.hasDict) = true
theorem sup_eval {o : Expr} {env : Env} {p2 p3 p4 : Pos} {txt : Str} {kk : Nat} (hline : (p2.endLine == p4.line) = true) : eval (.Call (.Attribute o "__init__" p2) [.Constant (.str txt) kk p3] [] p4) env = (do
      let ov ← attributeBase o "__init__" env (eval o env)
      standAt p2.atName
      let (f, first) ← holding [ov] (getMethod ov "__init__" (do return (← importBound o env).getD true))
      callWith p4 f first (backTo p4 (starEach [.Constant (.str txt) kk p3] env)) []) := by
  have hpos : methodCallPos true o env p2 p4 = pure p4 := by unfold methodCallPos; simp [hline]
  rw [arm_eval_Call]
  unfold methodCall
  have f : methodCallForm ([Expr.Constant (.str txt) kk p3].length + ([] : List Keyword).length) (backTo p4 (starEach [Expr.Constant (.str txt) kk p3] env)) (backToKw p4 (keywordEach [] env)) = true := rfl
  rw [f, hpos]
  simp only [calleeOf, if_true, pure_bind]
  rfl
section
variable {prog : Program} {w : World} {K : PySem.W.Frag} {mg mb : Str → Option Value} {C fI : Addr} {fd : FuncData} {body : List Stmt} {B newId initId : String} {bmB : List Value}
/-- super().__init__(text), in the __init__ of the exception at e -/
theorem exc_sup {A : Around} {E : Value → Shared → Prop} {s : Shared} {L e t0 : Addr} {m : Str → Option Value} {p0 p1 p2 p3 p4 p5 : Pos} {txt : Str} {kk : Nat} {Q : Flow → Shared → Prop} (hline : (p2.endLine == p4.line) = true) (F : BaF B newId initId bmB) (X : ExK K prog mg C fI fd body B newId initId bmB) (KI : K.In s.heap) (G : s.heap.Ns mainGlobals mg) (Bb : s.heap.Ns builtinsNs mb) (hb : mb "super" = some (.type "super"))
    (hns : s.heap.Ns L m) (hself : m "self" = some (.ref e)) (he : s.heap.get? e = some (PySem.W.excObj C t0 none .none))
    (h : ∀ (h' : Heap) (t1 : Addr) (tk : Nat), (∀ b o, b ≠ e → s.heap.get? b = some o → h'.get? b = some o) → h'.get? e = some (PySem.W.excObj C t1 none .none) → Q .next { s with heap := h', toks := tk }) :
    _root_.PySem.wpAt (model prog w) A (.func body (callEnv fd L fI)) (exec (supS p0 p1 p2 p3 p4 p5 txt kk) (callEnv fd L fI)) Q E s := by
  obtain ⟨oc, od, osl, lk, roc⟩ := X.fn
  obtain ⟨ar, har, earg⟩ := X.ar
  obtain ⟨cc, cl, cld, csl, hcl, hcell⟩ := X.cls
  obtain ⟨cda, ccl, cdd, vs, ccs, file, tf, hcode, hcd, hlk, hvs, hfile⟩ := X.cod
  obtain ⟨k1, k2, k3, k4, k5, k6, k7⟩ := X.sc
  obtain ⟨nm, N', qn, bs, bm, hdct, sn, sub, ab, col, dd, q0, q1, q2, q3, q5, hC, hT⟩ := PySem.W.excInit_of KI X.ini
  have env1 : interactive (callEnv fd L fI) = false := by
    show (fd.scope.kind == .module && _) = false
    rw [k1]; rfl
  refine PySem.ks_wpAt_Expr_any (PySem.ks_wpAt_MethodCall ?_ (sup_eval hline)) env1
  refine PySem.ks_wpAt_super_base (f := fI) (cc := cda) (env := callEnv fd L fI) k5 k6 (by decide) rfl (KI _ _ lk) rfl har hcode (KI _ _ hlk) rfl hvs hfile X.top ?_
  refine PySem.W.ks_loadName_global k1 k5 (Calls.loadGlobal_builtin (env := callEnv fd L fI) (by show s.heap.Ns fd.globals _; rw [X.glb.1]; exact G) X.sm (by show s.heap.Ns fd.builtins _; rw [X.glb.2]; exact Bb) hb ⟨rfl, ?_⟩)
  refine wpAny_loadName_free k1 k6 (c := cc) (by show fd.closure.lookup _ = _; rw [hcl]; rfl) ⟨_, KI _ _ hcell, rfl⟩ ?_
  refine wpAny_loadName_local k1 (by rw [earg]; exact k7) hns (by rw [earg]; exact hself) ?_
  have hcd' := PySem.W.codeIn
  obtain ⟨hh, g, d, t, os⟩ := s
  refine PySem.ks_wpAny_isType_cls hC rfl ⟨rfl, ?_⟩
  refine PySem.ks_wpAny_call_super hC rfl he rfl (fun c z => nomatch z) (PySem.W.looks_mroIn KI X.mro) fun h1 e1 up1 => ?_
  have KI1 : K.In h1 := KI.keeps up1
  have he1 := up1 _ _ he
  have I1 : PySem.W.InstAt h1 e (PySem.W.excObj C t0 none .none) C none := ⟨he1, rfl, rfl, trivial⟩
  cases hc : PySem.W.clsIn K C with
  | none =>
    have z := X.sup
    unfold PySem.W.ks_superIn at z
    rw [hc] at z
    cases z
  | some cd =>
    have z := X.sup
    unfold PySem.W.ks_superIn at z
    rw [hc] at z
    refine PySem.W.kxs_getMethod F.kf e1 (PySem.W.looks_opaque KI1 X.opq) (l₀ := cd.mro) (fun A Q E s k q => wpAny_bind ((PySem.W.looks_clsIn KI1 hc) A _ E s k (wpAny_pure q))) rfl KI1 z (I1.type.andThen (PySem.W.looks_subIn KI1 X.sub)) (PySem.W.ks_ne KI1 I1 hc) (by decide) ?_
    have KI2 : K.In (h1.push (PySem.W.kxs_mw initId e)) := KI1.keeps fun b o q => Heap.get?_push_of_some _ q
    refine PySem.W.kxs_callWith (i := initId) (x := e) (u := h1.objs.size) rfl (Calls.evalArgs_plain (Calls.spliced_cons (Calls.Constant_str (k := kk) (pos := p3) (Calls.spliced_nil ⟨Heap.get?_push_size _ rfl, ?_⟩))))
    have he2 : (h1.push (PySem.W.kxs_mw initId e)).get? e = some (PySem.W.excObj C t0 none .none) := Heap.get?_push_of_some _ he1
    have hu2 : (h1.push (PySem.W.kxs_mw initId e)).get? h1.objs.size = some (PySem.W.kxs_mw initId e) := Heap.get?_push_size _ rfl
    have hC2 := Heap.get?_push_of_some (PySem.W.kxs_mw initId e) (up1 _ _ hC)
    refine wpAny_call (codeAny_of_tree ?_); show wpAny _ A.in1 (callAny (.ref h1.objs.size) _) _ _ _
    simp only [callAny]; refine wpAny_bind (wpAny_load hu2 ?_)
    have y : (Value.type "method-wrapper" == Value.type "method" || Value.type "method-wrapper" == Value.type "builtin_function_or_method" || Value.type "method-wrapper" == Value.type "method-wrapper") = true := by decide
    simp only [PySem.W.kxs_mw, y, if_true]; refine PySem.W.KFB.if_so (by decide) (wpAny_bind (PySem.W.check_bound_init F.fb.toExcCallFacts hC2 he2 rfl (wpAny_bind (wpAny_pure (wpAny_pure ⟨PySem.plainId_quiet F.fb.init.plain _, codeAny_builtin F.fb.initEntry ?_⟩)))))
    exact PySem.W.exc_init_tree (cls := .ref C) (t0 := t0) (dv := none) (c2 := .none) (c3 := .none) (b4 := .bool false) he2 (by show 1 ≤ sizeLine; rw [sizeLine_eq]; omega) fun h2 k2 e2 _ => h h2 _ _ (fun b o hb q => k2 b o hb (Heap.get?_push_of_some _ (up1 b o q))) e2
/-- self.f = v, the exception's first field -/
theorem exc_store {A : Around} {E : Value → Shared → Prop} {s : Shared} {e t1 : Addr} {f : Str} {u : Value} {Q : Unit → Shared → Prop} (F : BaF B newId initId bmB) (X : ExK K prog mg C fI fd body B newId initId bmB) (KI : K.In s.heap) (ht : PySem.W.takerIn K C f = some none) (he : s.heap.get? e = some (PySem.W.excObj C t1 none .none))
    (h : ∀ (h' : Heap) (dx : Addr) (tk : Nat), (∀ b o, b ≠ e → s.heap.get? b = some o → h'.get? b = some o) → s.heap.objs.size ≤ dx → h'.get? e = some (PySem.W.excObj C t1 (some dx) .none) → h'.Ns1 dx (fun y => if y = f then some u else none) → Q () { s with heap := h', toks := tk }) :
    wpAny (model prog w) A (setAttr (.ref e) f u) Q E s := by
  have I : PySem.W.InstAt s.heap e (PySem.W.excObj C t1 none .none) C none := ⟨he, rfl, rfl, trivial⟩
  obtain ⟨hp, g, d, t, os⟩ := s
  refine PySem.W.set_plain KI I X.sa (PySem.W.osa_openX (s := ⟨hp, g, d, t + 1, os⟩) F.sf KI I X.ov ht fun b => ?_)
  obtain ⟨cd, hcd, hh⟩ := PySem.W.any_some X.hd
  have hcls : PySem.W.Looks (model prog w) hp (classData C) cd := PySem.W.looks_clsIn KI hcd
  have nex : e ≠ hp.objs.size := Nat.ne_of_lt (Heap.lt_size he)
  obtain ⟨nm, bs, mro, ns, qn, hdd, sn, sb, ab, col, del⟩ := cd
  dsimp only at hh
  subst hh
  show wpAny _ A.in1 (Builtin.ObjectAttr.storeInOwnDict (.ref e) (.ref C) _ f u b) _ _ _
  unfold Builtin.ObjectAttr.storeInOwnDict Builtin.ObjectAttr.ownDictForStores
  repeat (first | with_reducible refine HandSPX.store_in_new ?_ ?_ | with_reducible refine wpAny_loadPart_at he ?_ | with_reducible refine hcls.at ?_ | wp_step)
  · exact ⟨_, #[], _, (Heap.get?_update_ne _ _ _ _ nex.symm).trans (Heap.get?_push_at rfl rfl), rfl, (fun z hz => absurd hz (by simp)), fun _ => rfl⟩
  · intro h2 tk2 hn2 hs2
    have he2 : (hp.push { cls := .type "dict", data := .dict #[] }).get? e = some (PySem.W.excObj C t1 none .none) := Heap.get?_push_of_some _ he
    exact h h2 hp.objs.size tk2 (fun b o hb ho => (hs2.2 b (Nat.ne_of_lt (Heap.lt_size ho))).trans ((Heap.get?_update_ne _ _ _ _ hb).trans (Heap.get?_push_of_some _ ho))) (Nat.le_refl _) ((hs2.2 e nex).trans (Heap.get?_update_self _ he2 rfl)) hn2
/-- the call of the __init__ of one field -/
theorem exc_ini1 {A : Around} {R : Result → Shared → Prop} {s : Shared} {e t0 : Addr} {f par : Str} {u : Value} {p0 p1 p2 p3 p4 p5 p6 p7 p8 p9 : Pos} {txt : Str} {kk : Nat} {args : Args} (hline : (p2.endLine == p4.line) = true) (F : BaF B newId initId bmB) (X : ExK K prog mg C fI fd [supS p0 p1 p2 p3 p4 p5 txt kk, .Assign [.Attribute (.Name "self" p6) f p7] (.Name par p8) p9] B newId initId bmB)
    (KI : K.In s.heap) (G : s.heap.Ns mainGlobals mg) (Bb : s.heap.Ns builtinsNs mb) (hb : mb "super" = some (.type "super")) (lim : s.heap.NoLimit) (hroom : A.depth < recursionLimit) (hbind : BindsTo s fd args [((Str.ofString "self" : Str), .ref e), (par, u)]) (hpl : fd.scope.names.lookup par = some .local) (hps : ((Str.ofString "self" : Str) == par) = false) (hpd : (par == ("__debug__" : Str)) = false)
    (ht : PySem.W.takerIn K C f = some none) (he : s.heap.get? e = some (PySem.W.excObj C t0 none .none)) (hK : ∀ a o, K.lookup a = some o → a ≠ e)
    (h : ∀ (h' : Heap) (dx t1 : Addr) (tk : Nat), (∀ b o, b ≠ e → s.heap.get? b = some o → h'.get? b = some o) → s.heap.objs.size ≤ dx → h'.get? e = some (PySem.W.excObj C t1 (some dx) .none) → h'.Ns1 dx (fun y => if y = f then some u else none) → R (.ok (.ret .none)) { s with heap := h', toks := tk }) :
    codeAny (model prog w) A (.call (.ref fI) args) R s := by
  obtain ⟨oc, od, osl, lk, roc⟩ := X.fn
  obtain ⟨cda, ccl, cdd, vs, ccs, file, tf, hcode, hcd, hlk, hvs, hfile⟩ := X.cod
  obtain ⟨k1, k2, k3, k4, k5, k6, k7⟩ := X.sc
  refine PySem.ks_codeAny_call_defAt hroom (KI _ _ lk) rfl lim (by rw [hcode]; exact PySem.W.codeRec_of KI hcd) X.bd hbind k4 (fun y hy => ?_) (fun h0 hns kp => ?_) k2 k3 k1
  · rcases List.mem_cons.mp hy with rfl | hy
    · exact k7
    · obtain rfl : y = (par, u) := by simpa using hy
      exact hpl
  have neL : s.heap.objs.size ≠ e := Nat.ne_of_gt (Heap.lt_size he)
  refine PySem.ks_wpAt_execs_cons (exc_sup (mb := mb) (s := { s with heap := h0, toks := _ }) hline F X (KI.keeps kp) (G.keeps kp) (Bb.keeps kp) hb hns (by show List.lookup _ [(par, u), _] = _; rw [List.lookup_cons, hps]; simp) (kp _ _ he) fun h1 t1 tk1 k1' e1 => ?_)
  have hns1 : h1.Ns s.heap.objs.size fun x => ([((Str.ofString "self" : Str), Value.ref e), (par, u)] : List (Str × Value)).reverse.lookup x := by
    obtain ⟨ob, es, ep, ho, r⟩ := hns
    exact ⟨ob, es, ep, k1' _ ob neL ho, r⟩
  have KI1 : K.In h1 := fun a o q => k1' a o (hK a o q) (kp _ _ (KI a o q))
  refine PySem.ks_wpAt_execs_cons (PySem.ks_wpAt_Assign_Attr (_root_.PySem.wpAt_of_wpAny (wpAny_Name (wpAny_loadName_local k1 hpl hns1 (v := u) (by show List.lookup _ [(par, u), _] = _; simp) ?_) hpd)) rfl)
  refine wpAny_Name (wpAny_loadName_local k1 k7 hns1 (v := .ref e) (by show List.lookup _ [(par, u), _] = _; rw [List.lookup_cons, hps]; simp) ?_) (by decide)
  refine exc_store (s := { s with heap := h1, toks := tk1 }) F X KI1 ht e1 fun h2 dx tk2 k2' hdx e2 n2 => ?_
  refine _root_.PySem.wpAt_of_wpAny (wpAny_pure (h h2 dx t1 tk2 (fun b o hb q => k2' b o hb (k1' b o hb (kp b o q))) ?_ e2 n2))
  obtain ⟨ob, es, ep, ho, r⟩ := hns1
  exact Nat.le_trans (Nat.le_of_lt (Heap.lt_size ho)) hdx
/-- the call of an __init__ without a field -/
theorem exc_ini0 {A : Around} {R : Result → Shared → Prop} {s : Shared} {e t0 : Addr} {p0 p1 p2 p3 p4 p5 : Pos} {txt : Str} {kk : Nat} (hline : (p2.endLine == p4.line) = true) (F : BaF B newId initId bmB) (X : ExK K prog mg C fI fd [supS p0 p1 p2 p3 p4 p5 txt kk] B newId initId bmB)
    (KI : K.In s.heap) (G : s.heap.Ns mainGlobals mg) (Bb : s.heap.Ns builtinsNs mb) (hb : mb "super" = some (.type "super")) (lim : s.heap.NoLimit) (hroom : A.depth < recursionLimit) (hbind : BindsTo s fd ⟨[.ref e], []⟩ [((Str.ofString "self" : Str), .ref e)]) (he : s.heap.get? e = some (PySem.W.excObj C t0 none .none))
    (h : ∀ (h' : Heap) (t1 : Addr) (tk : Nat), (∀ b o, b ≠ e → s.heap.get? b = some o → h'.get? b = some o) → h'.get? e = some (PySem.W.excObj C t1 none .none) → R (.ok (.ret .none)) { s with heap := h', toks := tk }) :
    codeAny (model prog w) A (.call (.ref fI) ⟨[.ref e], []⟩) R s := by
  obtain ⟨oc, od, osl, lk, roc⟩ := X.fn
  obtain ⟨cda, ccl, cdd, vs, ccs, file, tf, hcode, hcd, hlk, hvs, hfile⟩ := X.cod
  obtain ⟨k1, k2, k3, k4, k5, k6, k7⟩ := X.sc
  refine PySem.ks_codeAny_call_defAt hroom (KI _ _ lk) rfl lim (by rw [hcode]; exact PySem.W.codeRec_of KI hcd) X.bd hbind k4 (fun y hy => ?_) (fun h0 hns kp => ?_) k2 k3 k1
  · obtain rfl : y = (Str.ofString "self", .ref e) := by simpa using hy
    exact k7
  refine PySem.ks_wpAt_execs_cons (exc_sup (mb := mb) (s := { s with heap := h0, toks := _ }) hline F X (KI.keeps kp) (G.keeps kp) (Bb.keeps kp) hb hns (by show List.lookup _ [_] = _; simp) (kp _ _ he) fun h1 t1 tk1 k1' e1 => ?_)
  exact _root_.PySem.wpAt_of_wpAny (wpAny_pure (h h1 t1 tk1 (fun b o hb q => k1' b o hb (kp b o q)) e1))
end
section
variable {X : Cx} {C fI : Addr} {fd : FuncData} {body : List Stmt} {B newId initId : String} {bmB : List Value}
theorem exc_call {A : Around} {R : Result → Shared → Prop} {h : Heap} {g : Array GenState} {d : Drawn} {t : Nat} {os : OsState} {us : List Value} (F : BaF B newId initId bmB) (Y : ExK X.K X.prog X.mg C fI fd body B newId initId bmB) (KI : X.K.In h) (hz : us.length ≤ sizeLine)
    (hq : codeAny (model X.prog X.w) (A.under (.builtin "type.__call__" ⟨.ref C :: us, []⟩)) (.call (.ref fI) ⟨.ref (h.objs.size + 1) :: us, []⟩) (PySem.W.InitBack (h.objs.size + 1) R) ⟨(h.push (PySem.W.kdv_tup us)).push (PySem.W.excObj C h.objs.size none .none), g, d, t, os⟩) :
    codeAny (model X.prog X.w) A (.call (.ref C) ⟨us, []⟩) R ⟨h, g, d, t, os⟩ := by
  obtain ⟨nm, N', qn, bs, bm, hdct, sn, sub, ab, col, dd, q0, q1, q2, q3, q5, hC, hT⟩ := PySem.W.excInit_of KI Y.ini
  obtain ⟨oc, od, osl, lk, roc⟩ := Y.fn
  exact PySem.PX.call_own F.fb hT hC (PySem.W.looks_findIn KI Y.at_) (fun self => PySem.W.exc_bind (KI _ _ lk) roc self) hz hq
theorem boot_super {mb : Str → Option Value} (h : ∀ x : Str, x ≠ "__name__" → mb x = bootBuiltins x) : mb "super" = some (.type "super") := (h _ (by decide)).trans (by decide +kernel)
end
end Qi
namespace Qi
open PySem PySem.Spec PyProof.Rows L2 LamX
section
variable {X : Cx} {C fI : Addr} {fd : FuncData} {B newId initId : String} {bmB : List Value} {x f par txt : Str} {p pos p0 p1 p2 p3 p4 p5 p6 p7 p8 p9 : Pos} {kk : Nat} {e : Expr} {te : TE}
/-- the made exception: laid aside, its dict known -/
theorem mkp_of {pins : List (Addr × Obj)} {σ : L2.St} {H : Hp} {Q : XK} {s : Shared} {h' : Heap} {tk : Nat} {a t1 dx : Addr} {v : V} {u : Value} (I : Inv X pins σ H s) (T : Raises X (.ref C)) (k : ∀ b o, s.heap.get? b = some o → h'.get? b = some o) (ha : s.heap.objs.size ≤ a) (hd : s.heap.objs.size ≤ dx)
    (he : h'.get? a = some (PySem.W.excObj C t1 (some dx) .none)) (hn : h'.Ns1 dx (fun y => if y = f then some u else none)) (rv : RelV v u) (q : H dx = none → Q (.ref C) (some dx) (upd H dx (.xd [(f, v)]))) : MkP X pins σ Q (.ref a) { s with heap := h', toks := tk } := by
  have hnd : H dx = none := I.hok.fresh hd
  have hna : H a = none := I.hok.fresh ha
  obtain ⟨mo, es, ep, ho, r⟩ := hn
  have hda : dx ≠ a := fun z => by
    rw [z, he] at ho
    cases ho
    cases r.1
  obtain ⟨G, g1, g2⟩ := restrict h' fun b => decide (b ≠ a)
  have gk : ∀ b o, s.heap.get? b = some o → G.get? b = some o := fun b o q => (g1 b (decide_eq_true fun z => by
    rw [z] at q
    exact Nat.lt_irrefl _ (Nat.lt_of_lt_of_le (Heap.lt_size q) ha))).trans (k b o q)
  have gs : ∀ b o, G.get? b = some o → h'.get? b = some o := fun b o q => by
    by_cases hb : b = a
    · rw [hb, g2 a (by simp)] at q; cases q
    · exact (g1 b (decide_eq_true hb)).symm.trans q
  have J : Inv X pins σ (upd H dx (.xd [(f, v)])) { s with heap := G, toks := tk } := I.laid (t' := tk) gk hd ⟨_, ⟨mo, es, ep, (g1 dx (decide_eq_true hda)).trans ho, r⟩, fun y => by
    by_cases hy : y = f
    · subst hy
      simp [List.lookup]
      exact rv
    · rw [if_neg hy]
      have : ((y == f) = false) := by simpa using hy
      simp [List.lookup, this]
      exact True.intro⟩
  exact ⟨a, _, _, { s with heap := G, toks := tk }, _, .ref C, some dx, rfl, J, gs, g2 a (by simp), he, ⟨rfl, rfl⟩, rfl, rfl, by rw [upd_ne hda.symm]; exact hna, rfl, I.bare, T, q hnd⟩
theorem mkp_of0 {pins : List (Addr × Obj)} {σ : L2.St} {H : Hp} {Q : XK} {s : Shared} {h' : Heap} {tk : Nat} {a t1 : Addr} (I : Inv X pins σ H s) (T : Raises X (.ref C)) (k : ∀ b o, s.heap.get? b = some o → h'.get? b = some o) (ha : s.heap.objs.size ≤ a)
    (he : h'.get? a = some (PySem.W.excObj C t1 none .none)) (q : Q (.ref C) none H) : MkP X pins σ Q (.ref a) { s with heap := h', toks := tk } := by
  have hna : H a = none := I.hok.fresh ha
  exact ⟨a, _, _, s, H, .ref C, none, rfl, I, k, Heap.get?_none_of_le ha, he, ⟨rfl, rfl⟩, rfl, rfl, hna, rfl, I.bare, T, q⟩
abbrev body1 (p0 p1 p2 p3 p4 p5 p6 p7 p8 p9 : Pos) (txt f par : Str) (kk : Nat) : List Stmt := [supS p0 p1 p2 p3 p4 p5 txt kk, .Assign [.Attribute (.Name "self" p6) f p7] (.Name par p8) p9]
/-- what an __init__ with one field must have besides -/
structure Ini1 (K : PySem.W.Frag) (C : Addr) (fd : FuncData) (f par : Str) (p2 p4 : Pos) : Prop where
  line : (p2.endLine == p4.line) = true
  bind : ∀ a u : Value, bindArgs fd ⟨[a, u], []⟩ = pure [((Str.ofString "self" : Str), a), (par, u)]
  bindK : ∀ a u : Value, bindArgs fd ⟨[a], [(par, u)]⟩ = pure [((Str.ofString "self" : Str), a), (par, u)]
  loc : fd.scope.names.lookup par = some .local
  ns : ((Str.ofString "self" : Str) == par) = false
  nd : (par == ("__debug__" : Str)) = false
  tk : PySem.W.takerIn K C f = some none
/-- C(v), run -/
theorem exc_run1 {A : Around} {R : Result → Shared → Prop} {pins : List (Addr × Obj)} {σ : L2.St} {H : Hp} {s : Shared} {u : Value} (F : BaF B newId initId bmB) (Y : ExK X.K X.prog X.mg C fI fd (body1 p0 p1 p2 p3 p4 p5 p6 p7 p8 p9 txt f par kk) B newId initId bmB) (J : Ini1 X.K C fd f par p2 p4) (hr : Room 1 A) (I : Inv X pins σ H s)
    (h : ∀ (h' : Heap) (a dx t1 : Addr) (tk : Nat), (∀ b o, s.heap.get? b = some o → h'.get? b = some o) → s.heap.objs.size ≤ a → s.heap.objs.size ≤ dx → h'.get? a = some (PySem.W.excObj C t1 (some dx) .none) → h'.Ns1 dx (fun y => if y = f then some u else none) → R (.ok (.ret (.ref a))) { s with heap := h', toks := tk }) :
    codeAny (model X.prog X.w) A (.call (.ref C) ⟨[u], []⟩) R s := by
  obtain ⟨mb, b1, b2⟩ := I.mod.blt
  have up : ∀ b o, s.heap.get? b = some o → ((s.heap.push (PySem.W.kdv_tup [u])).push (PySem.W.excObj C s.heap.objs.size none .none)).get? b = some o := fun b o q => Heap.get?_push_of_some _ (Heap.get?_push_of_some _ q)
  have hsz : (s.heap.push (PySem.W.kdv_tup [u])).objs.size = s.heap.objs.size + 1 := size_push' _ _
  have he : ((s.heap.push (PySem.W.kdv_tup [u])).push (PySem.W.excObj C s.heap.objs.size none .none)).get? (s.heap.objs.size + 1) = some (PySem.W.excObj C s.heap.objs.size none .none) := by
    rw [← hsz]; exact Heap.get?_push_size _ rfl
  have hne : ∀ b o, s.heap.get? b = some o → b ≠ s.heap.objs.size + 1 := fun b o q => Nat.ne_of_lt (Nat.lt_succ_of_lt (Heap.lt_size q))
  have KI := I.kIn
  have G := I.mod.glob.keeps I.bk
  have Bb := b1.keeps I.bk
  have lim := I.nolimit
  obtain ⟨hh, g, d, t, os⟩ := s
  refine exc_call F Y KI (by show 1 ≤ sizeLine; rw [sizeLine_eq]; omega) ?_
  refine exc_ini1 (mb := mb) (s := ⟨(hh.push (PySem.W.kdv_tup [u])).push (PySem.W.excObj C hh.objs.size none .none), g, d, t, os⟩) J.line F Y (KI.keeps up) (G.keeps up) (Bb.keeps up) (boot_super b2) (lim.keeps up) (hr.make C [u] []).depth (.of_eq (J.bind _ _)) J.loc J.ns J.nd J.tk he (fun a o q => hne a o (KI a o q)) fun h2 dx t1 tk k2 hdx e2 n2 => ⟨rfl, ?_⟩
  exact h h2 _ dx t1 tk (fun b o q => k2 b o (hne b o q) (up b o q)) (Nat.le_succ _) (Nat.le_trans (by show hh.objs.size ≤ ((hh.push _).push _).objs.size; rw [size_push', size_push']; omega) hdx) e2 n2
theorem pmk_exc1 (F : BaF B newId initId bmB) (Y : ExK X.K X.prog X.mg C fI fd (body1 p0 p1 p2 p3 p4 p5 p6 p7 p8 p9 txt f par kk) B newId initId bmB) (J : Ini1 X.K C fd f par p2 p4) (hr : Room 1 X.A) (T : Raises X (.ref C)) (hg : Gl X x) (hm : X.mg x = some (.ref C)) (he : PE X e te)
    (hs : starEach [e] X.env = (false, eval e X.env) :: starEach [] X.env := by rfl) (hdb : (x == ("__debug__" : Str)) = false := by decide) :
    PMk X (.Call (.Name x p) [e] [] pos) (fun σ H Q => te σ H fun v H1 => ∀ dx, H1 dx = none → Q (.ref C) (some dx) (upd H1 dx (.xd [(f, v)]))) := by
  intro pins s σ H Q I h
  refine wpAny_Call_Name_kw (ld_glob I hg hm ?_ hdb)
  refine PySem.W.callWith_K (h₀ := X.base) I.ok.mod.kin Y.kp ?_ hs rfl
  rw [hs]
  show wpAny _ _ (spliced ((false, eval e X.env) :: backTo pos (starEach [] X.env))) _ _ s
  refine Calls.spliced_cons (thn (he.run pins s σ H _ I h) fun u s1 ⟨v, H1, I1, r1, q1⟩ => Calls.spliced_nil ⟨I1.kIn, ?_⟩)
  exact wpAny_call (exc_run1 (u := u) F Y J hr I1 fun h' a dx t1 tk k ha hd e2 n2 => mkp_of I1 T k ha hd e2 n2 r1 fun hn => q1 dx hn)
end
end Qi
namespace Qi
open PySem PySem.Spec PyProof.Rows L2 LamX
section
variable {X : Cx} {C fI : Addr} {fd : FuncData} {B newId initId : String} {bmB : List Value} {x txt : Str} {p pos p0 p1 p2 p3 p4 p5 : Pos} {kk : Nat}
abbrev body0 (p0 p1 p2 p3 p4 p5 : Pos) (txt : Str) (kk : Nat) : List Stmt := [supS p0 p1 p2 p3 p4 p5 txt kk]
structure Ini0 (fd : FuncData) (p2 p4 : Pos) : Prop where
  line : (p2.endLine == p4.line) = true
  bind : ∀ a : Value, bindArgs fd ⟨[a], []⟩ = pure [((Str.ofString "self" : Str), a)]
theorem exc_run0 {A : Around} {R : Result → Shared → Prop} {pins : List (Addr × Obj)} {σ : L2.St} {H : Hp} {s : Shared} (F : BaF B newId initId bmB) (Y : ExK X.K X.prog X.mg C fI fd (body0 p0 p1 p2 p3 p4 p5 txt kk) B newId initId bmB) (J : Ini0 fd p2 p4) (hr : Room 1 A) (I : Inv X pins σ H s)
    (h : ∀ (h' : Heap) (a t1 : Addr) (tk : Nat), (∀ b o, s.heap.get? b = some o → h'.get? b = some o) → s.heap.objs.size ≤ a → h'.get? a = some (PySem.W.excObj C t1 none .none) → R (.ok (.ret (.ref a))) { s with heap := h', toks := tk }) :
    codeAny (model X.prog X.w) A (.call (.ref C) ⟨[], []⟩) R s := by
  obtain ⟨mb, b1, b2⟩ := I.mod.blt
  have up : ∀ b o, s.heap.get? b = some o → ((s.heap.push (PySem.W.kdv_tup [])).push (PySem.W.excObj C s.heap.objs.size none .none)).get? b = some o := fun b o q => Heap.get?_push_of_some _ (Heap.get?_push_of_some _ q)
  have hsz : (s.heap.push (PySem.W.kdv_tup [])).objs.size = s.heap.objs.size + 1 := size_push' _ _
  have he : ((s.heap.push (PySem.W.kdv_tup [])).push (PySem.W.excObj C s.heap.objs.size none .none)).get? (s.heap.objs.size + 1) = some (PySem.W.excObj C s.heap.objs.size none .none) := by
    rw [← hsz]; exact Heap.get?_push_size _ rfl
  have hne : ∀ b o, s.heap.get? b = some o → b ≠ s.heap.objs.size + 1 := fun b o q => Nat.ne_of_lt (Nat.lt_succ_of_lt (Heap.lt_size q))
  have KI := I.kIn
  have G := I.mod.glob.keeps I.bk
  have Bb := b1.keeps I.bk
  have lim := I.nolimit
  obtain ⟨hh, g, d, t, os⟩ := s
  refine exc_call F Y KI (Nat.zero_le _) ?_
  refine exc_ini0 (mb := mb) (s := ⟨(hh.push (PySem.W.kdv_tup [])).push (PySem.W.excObj C hh.objs.size none .none), g, d, t, os⟩) J.line F Y (KI.keeps up) (G.keeps up) (Bb.keeps up) (boot_super b2) (lim.keeps up) (hr.make C [] []).depth (.of_eq (J.bind _)) he fun h2 t1 tk k2 e2 => ⟨rfl, ?_⟩
  exact h h2 _ t1 tk (fun b o q => k2 b o (hne b o q) (up b o q)) (Nat.le_succ _) e2
theorem pmk_exc0 (F : BaF B newId initId bmB) (Y : ExK X.K X.prog X.mg C fI fd (body0 p0 p1 p2 p3 p4 p5 txt kk) B newId initId bmB) (J : Ini0 fd p2 p4) (hr : Room 1 X.A) (T : Raises X (.ref C)) (hg : Gl X x) (hm : X.mg x = some (.ref C)) (hdb : (x == ("__debug__" : Str)) = false := by decide) :
    PMk X (.Call (.Name x p) [] [] pos) (fun σ H Q => Q (.ref C) none H) := by
  intro pins s σ H Q I h
  refine wpAny_Call_Name_kw (ld_glob I hg hm ?_ hdb)
  refine PySem.W.callWith_K0 I.kIn Y.kp ?_
  exact wpAny_call (exc_run0 F Y J hr I fun h' a t1 tk k ha e2 => mkp_of0 I T k ha e2 h)
end
def cRaise1 (c : Nat) (m : Ex) : Co := fun σ S => (m σ S).bind fun d S1 => .exc (.exc c [d]) S1
def cRaise0 (c : Nat) : Co := fun _ S => .exc (.exc c []) S
section
variable {X : Cx} {Z : Env1} {e0 : Expr} {m : Ex} {c : Nat} {f : Str} {pos : Pos}
theorem ds_raise1 (hc : X.calm = true) (tk : Takes X Z.W) (hf : excField c = some f) (hp : PMk X e0 (fun σ H Q => lE Z m σ H fun v H1 => ∀ dx, H1 dx = none → Q (.ref (Z.K.cl c)) (some dx) (upd H1 dx (.xd [(f, v)])))) : DS X Z (.Raise (some e0) none pos) (cRaise1 c m) := PS.imp (ps_raise hc tk hp) fun D σV H => by
  rintro ⟨g, j, σ, S, R, h⟩
  refine ⟨g, j, σ, S, R, OutC.bind (fun d S1 j1 v H1 R1 s1 rd h1 dx hdx => ?_) h⟩
  have nF : ¬ FF Z.lin g.B j1 S1.length σ σV dx := fun z => by
    obtain ⟨o, eo⟩ := R1.trk dx z
    rw [hdx] at eo; cases eo
  have R2 := (R1.alloc (p := dx) (o := .xd [(f, v)]) hdx)
  refine h1 j1 (.ref (Z.K.cl c)) (some dx) σV _ R2.drop ⟨c, [d], rfl, rfl, ?_⟩
  rw [hf]
  refine ⟨dx, d, v, rfl, rfl, upd_same, fun z => nF ?_, (rd.mono (le_alloc hdx)).mono le_drop⟩
  rcases z with z | z | ⟨i, z⟩
  · exact .inl z
  · exact .inr (.inl z)
  · exact (noLin z).elim
theorem ds_raise0 (hc : X.calm = true) (tk : Takes X Z.W) (hf : excField c = none) (hp : PMk X e0 (fun σ H Q => Q (.ref (Z.K.cl c)) none H)) : DS X Z (.Raise (some e0) none pos) (cRaise0 c) := PS.imp (ps_raise hc tk hp) fun D σV H => by
  rintro ⟨g, j, σ, S, R, h⟩
  refine h j (.ref (Z.K.cl c)) none σV H R.drop ⟨c, [], rfl, rfl, ?_⟩
  rw [hf]
  exact ⟨rfl, rfl⟩
end
end Qi
namespace Qi
open PySem PySem.Spec PyProof.Rows L2 LamX
theorem exv_ok {P : Program} {w : World} {H : Hp} {h : Heap} {cls : Value} {d : Option Addr} {a : Addr} {oe : Obj} {vs : Array Value} (h1 : h.get? a = some oe) (h2 : oe.cls = cls) (h3 : oe.dict = d) (h4 : oe.data = .fields vs) : ObjOk P w H h a (ExV cls d a) :=
  ⟨⟨oe, vs, h1, h2, h3, h4⟩, ⟨oe, h1⟩, fun h1 h2 ⟨oe, vs, z, r⟩ k => ⟨oe, vs, k _ z, r⟩⟩
/-- an object that was not there at the entry gets known -/
theorem inv_know {X : Cx} {pins : List (Addr × Obj)} {σ : L2.St} {H : Hp} {s : Shared} {a : Addr} {o : HO} (I : Inv X pins σ H s) (hn : H a = none) (h0 : X.s_0.heap.get? a = none) (hL : a ≠ X.env.locals) (hc : ∀ x c, X.env.cells.lookup x = some c → c ≠ a) (hp : ∀ q ∈ X.pn ++ pins, q.1 ≠ a) (new : ObjOk X.prog X.w (upd H a o) s.heap a o) : Inv X pins σ (upd H a o) s := by
  have oth : ∀ b u, H b = some u → upd H a o b = some u := fun b u e => by rw [upd_ne (ne_of_none e hn)]; exact e
  refine ⟨I.ok, I.os, I.bare, ⟨I.base.keep, I.base.slot, fun b ob e n hx => ?_, I.base.there, fun b xs e => oth _ _ (I.base.tups b xs e), fun b u v e => oth _ _ (I.base.frzs b u v e), fun b ps e => (I.base.tbls b ps e).imp fun m z => oth _ _ z⟩, I.loc, I.cell, by rw [upd_ne hL.symm]; exact I.free, fun x c e => by rw [upd_ne (hc x c e)]; exact I.freeC x c e,
    fun q hq => ⟨(I.pin q hq).1, by rw [upd_ne (hp q hq)]; exact (I.pin q hq).2.1, (I.pin q hq).2.2⟩, fun b u e => ?_, I.len⟩
  · rw [upd_ne (fun z => by rw [z, h0] at e; cases e)]
    exact I.base.free b ob e n hx
  · by_cases hb : b = a
    · rw [hb, upd_same] at e
      cases e
      rw [hb]; exact new
    · rw [upd_ne hb] at e
      exact (I.hok b u e).stay (fun d v _ z => z) (fun d z => oth d _ z) fun d xs z => oth d _ z
/-- what is wished of an exception of the body -/
def wCatch (K : PySem.W.Frag) (c1 c2 : Value) (i jy : Nat) (Wout : WX) (D : Ends) : WX := fun cls d σ H =>
  ∃ b, PySem.W.exmAny K cls [c1, c2] = some b ∧ (b = true → ∀ a, H a = none → D.nx ((σ.set jy (some (.ref a))).set i none) (upd H a (ExV cls d a))) ∧ (b = false → Wout cls d σ H)
section
variable {X : Cx} {x1 x2 n y : Str} {C1 C2 : Addr} {i jy kk : Nat} {body : List Stmt} {np q1 q2 yp nq ap pos pos' : Pos} {tb : WX → TS} {Wout : WX}
theorem ps_catch (hs : X.stack = X.env :: X.outer) (hf : X.env.frame = some X.env.locals) (hN : X.N.Nodup) (hi : X.N[i]? = some n) (hln : X.env.kindOf n = some .local) (hy : X.N[jy]? = some y) (hly : X.env.kindOf y = some .local) (g1 : Gl X x1) (m1 : X.mg x1 = some (.ref C1)) (g2 : Gl X x2) (m2 : X.mg x2 = some (.ref C2))
    (d1 : (x1 == ("__debug__" : Str)) = false) (d2 : (x2 == ("__debug__" : Str)) = false) (dn : (n == ("__debug__" : Str)) = false) (dn2 : (n == ("__classdict__" : Str)) = false) (hx : X.ex = []) (tk : Takes X Wout)
    (hb : ∀ (W : WX) (pn : List (Addr × Obj)) (xe : Value → Shared → Prop), Takes (X.tr pn xe) W → PassesOwn (model X.prog X.w) X.A X.env xe → PSs (X.tr pn xe) body (tb W)) :
    PS X (.Try body [.ExceptHandler (some (.Tuple [.Name x1 q1, .Name x2 q2] kk np)) (some n) [.Assign [.Name y yp] (.Name n nq) ap] pos'] [] [] pos) (fun D σ H => tb (wCatch X.K (.ref C1) (.ref C2) i jy Wout D) D σ H) := by
  refine ⟨fun pins s σ H D I h => ?_⟩
  have ok := I.ok
  have hfr : X.A.frames = some (X.env :: X.outer) := by rw [ok.frames, hs]
  refine wpAny_Try_except (wpAny_mono ((hb (wCatch X.K (.ref C1) (.ref C2) i jy Wout D) (X.pn ++ pins) _ (fun u s' xx => ?cat) PassesOwn.looking).run [] s σ H D (I.toTry _) h) (fun fl s1 hsp => ?fine) (fun _ _ he => he))
  case fine =>
    match fl, hsp with
    | .next, ⟨σ', H', J', q⟩ => exact wpAny_execs_nil ⟨σ', H', J'.ofTry ok, q⟩
    | .brk, ⟨σ', H', J', q⟩ => exact ⟨σ', H', J'.ofTry ok, q⟩
    | .cont, ⟨σ', H', J', q⟩ => exact ⟨σ', H', J'.ofTry ok, q⟩
    | .ret u, ⟨v, σ', H', J', r, q⟩ => exact ⟨v, σ', H', J'.ofTry ok, r, q⟩
  case cat =>
    obtain ⟨a, B, sI, pins', σ', H', cls, d, rfl, J', nb, up, sky, na, os, ag, b, hb1, hyes, hno⟩ := xx
    have J : Inv X pins σ' H' sI := J'.ofTry ok
    rw [hs] at sky
    refine Sky.land Zc.steady hfr hf sky fun h3 fl3 up3 => ?_
    have J3 : Inv X pins σ' H' { s' with heap := h3 } := J.landed nb fl3.1 (up.trans up3) os ag
    obtain ⟨oe3, vs3, he3, hz3, hd3⟩ := fl3.there
    have nfr : a ∉ frs (X.env :: X.outer) := fun hm => by
      obtain ⟨_, o', e', hnf⟩ := fl3.2.2.1.mem hm
      rw [he3] at e'; cases e'
      exact hnf _ hd3
    have nL : a ≠ X.env.locals := fun z => nfr (List.mem_filterMap.mpr ⟨X.env, List.mem_cons_self, by rw [hf, z]⟩)
    have nF : a ∉ X.fs := fun hm => by
      obtain ⟨e, he, q⟩ := List.mem_filterMap.mp hm
      exact nfr (List.mem_filterMap.mpr ⟨e, List.mem_cons_of_mem _ he, q⟩)
    have nI : sI.heap.get? a = none := by
      cases q : sI.heap.get? a with
      | none => rfl
      | some o =>
        have z := nb a o q (by rw [hs]; exact nfr)
        rw [fl3.2.1] at z; cases z
    have n0 : X.s_0.heap.get? a = none := by
      cases q : X.s_0.heap.get? a with
      | none => rfl
      | some o =>
        obtain ⟨o', z⟩ := J.base.there a o q (by rw [hx]; exact fun z => nomatch z)
        rw [nI] at z; cases z
    have S3 := J3.suite he3 hd3 na nL nF
    refine wpAny_handleBy_cons (codeAny_handlers_test ?_) (fun q => nomatch q)
    refine wpAny_Tuple_spliced (Calls.spliced_cons (ld_glob (X := X.suite a ((a, oe3) :: (X.pn ++ pins))) S3 g1 m1 (Calls.spliced_cons (ld_glob (X := X.suite a ((a, oe3) :: (X.pn ++ pins))) S3 g2 m2 (Calls.spliced_nil ⟨by show 2 ≤ sizeLine; rw [sizeLine_eq]; omega, ?_⟩) d2)) d1))
    have keep4 : ∀ b o, h3.get? b = some o → (h3.push (seqObj "tuple" #[.ref C1, .ref C2] 0)).get? b = some o := fun b o q => Heap.get?_push_of_some _ q
    have LT : PySem.W.Looks (model X.prog X.w) (h3.push (seqObj "tuple" #[.ref C1, .ref C2] 0)) (typeOf (.ref a)) cls := fun A Q E s k q => wpAny_typeOf_ref (k _ _ (keep4 _ _ he3)) (by rw [hz3.1]; exact q)
    have LM := PySem.W.exm_tup2 (M := model X.prog X.w) (tp := h3.objs.size) (J3.kIn.keeps keep4) LT (Heap.get?_push_size _ rfl) hb1
    refine LM.here ?_
    have fl4 : HandSPX.FlyingZ B (X.env :: X.outer) a (Zc cls d) (h3.push (seqObj "tuple" #[.ref C1, .ref C2] 0)) := by
      obtain ⟨w1, w2, w3, oe, vs, T, oT, ts', z1, z2, z3, z4, z5, z6, z7, z8, z9⟩ := fl3
      exact ⟨fun b o q => keep4 b o (w1 b o q), w2, Heap.FunFrames.of_keeps (fun b o q _ => ⟨o, keep4 b o q, rfl⟩) w3, oe, vs, T, oT, ts', keep4 _ _ z1, z2, z3, z4, z5, z6, keep4 _ _ z7, z8, z9⟩
    have up4 : sI.heap.UpToSlots (h3.push (seqObj "tuple" #[.ref C1, .ref C2] 0)) := (up.trans up3).trans (Heap.UpToSlots.of_keeps keep4)
    cases b with
    | true =>
      refine codeAny_handlers_suite_as (HandSPX.lands_againZ fl4 fun h5 fl5 up5 => ?_)
      have J5 : Inv X pins σ' H' { s' with heap := h5 } := J.landed nb fl5.1 (up4.trans up5) os ag
      obtain ⟨oe5, vs5, he5, hz5, hd5⟩ := fl5.there
      have S5 := J5.suite he5 hd5 na nL nF
      refine store_ok (X := X.suite a ((a, oe5) :: (X.pn ++ pins))) (v := .ref a) S5 hN hi (.inl hln) rfl (fun s6 S6 => ?_) (.inr hln)
      have su : PSs (X.suite a ((a, oe5) :: (X.pn ++ pins))) [.Assign [.Name y yp] (.Name n nq) ap] _ := pss_one (ps_set hN hy (.inl hly) (pe_var (X := X.suite a ((a, oe5) :: (X.pn ++ pins))) hi (.inl hln) dn dn2) rfl (.inr hly))
      have hil : i < σ'.length := by
        rw [J.len]
        exact (List.getElem?_eq_some_iff.mp hi).1
      have hg : (σ'.set i (some (V.ref a)))[i]? = some (some (.ref a)) := List.getElem?_set_self hil
      refine wpAny_mono (su.run [] s6 _ H' { nx := fun σ7 H7 => σ7 = (σ'.set i (some (.ref a))).set jy (some (.ref a)) ∧ H7 = H', rt := fun _ _ => False } S6 ⟨_, hg, rfl, rfl⟩) (fun fl s7 hsp => ?_) (fun _ _ z => False.elim z)
      match fl, hsp with
      | .next, ⟨σ7, H7, S7, e7, eH⟩ =>
        subst e7
        subst eH
        have K7 : Inv X ((a, oe5) :: pins) _ H7 s7 := ⟨ok, S7.os, S7.bare, S7.base, S7.loc, S7.cell, S7.free, S7.freeC, fun p hp => S7.pin p (List.mem_append_left _ (by
          rcases List.mem_append.mp hp with z | z
          · exact List.mem_cons_of_mem _ (List.mem_append_left _ z)
          · rcases List.mem_cons.mp z with rfl | z
            · exact List.mem_cons_self
            · exact List.mem_cons_of_mem _ (List.mem_append_right _ z))), S7.hok, S7.len⟩
        refine gone_ok K7 hN hi hln fun s8 J8 => ?_
        have pa := J8.pin (a, oe5) (List.mem_append_right _ List.mem_cons_self)
        have J9 : Inv X pins _ H7 s8 := inv_pins J8 fun q hq => .inl (List.mem_cons_of_mem _ hq)
        have J10 := inv_know (o := ExV cls d a) J9 na n0 nL (fun x c e z => by
          obtain ⟨v, o, ho, hd⟩ := J9.cell x c e
          rw [z, pa.1] at ho
          cases ho
          rw [hd5] at hd; cases hd) (fun q hq z => by
          have := (J.pin q hq).1
          rw [z, nI] at this; cases this) (exv_ok pa.1 hz5.1 hz5.2 hd5)
        refine ⟨_, _, J10, ?_⟩
        have es : (((σ'.set i (some (V.ref a))).set jy (some (.ref a))).set i none) = (σ'.set jy (some (.ref a))).set i none := by
          by_cases e : i = jy
          · subst e; simp
          · rw [List.set_comm _ _ e, List.set_set]
        rw [es]
        exact hyes rfl a na
      | .brk, ⟨_, _, _, z⟩ => exact False.elim z
      | .cont, ⟨_, _, _, z⟩ => exact False.elim z
      | .ret u, ⟨_, _, _, _, _, z⟩ => exact False.elim z
    | false =>
      show wpAny _ X.A (handleBy (.ref a) X.env []) _ _ _
      obtain ⟨w1, w2, w3, oe, vs, T, oT, ts', he, hz, hd, h1, hr⟩ := id fl4
      refine wpAny_handleBy_nil ?_
      unfold PySem.passOn; refine wpAny_bind (wpAny_field he hd h1 ?_); rw [if_neg (show ¬ ((Value.ref T == Value.none) = true) by simp)]
      have fin : wpAny (model X.prog X.w) X.A (setFlight (.ref a) X.env.frame) (fun _ s4 => wpAny (model X.prog X.w) X.A (throw (.ref a) : Sem Flow) (SP X pins D) X.xe s4) X.xe { s' with heap := h3.push (seqObj "tuple" #[.ref C1, .ref C2] 0) } := by
        rw [hf]; exact HandSPX.setFlight_upZ fl4 fun h5 hh5 up5 => wpAny_throw (tk _ _ ⟨a, B, sI, pins, σ', H', cls, d, rfl, J, nb, up4.trans up5, .inr (.inr (by rw [hs]; exact hh5)), na, os, ag, hno rfl⟩)
      first | exact wpAny_bind (wpAny_pure (wpAny_bind fin)) | exact wpAny_bind fin
end
end Qi
namespace Qi
open PySem PySem.Spec PyProof.Rows L2 LamX
theorem rd_exc {w : Wo} {c : Nat} {fs : List D} {cls : Value} {dd : Option Addr} {a : Addr} (h : RX w (.exc c fs) cls dd) (ha : w.H a = some (ExV cls dd a)) (hf : ¬ w.F a) : RD w (.exc c fs) (.ref a) := by
  obtain ⟨c', fs', e, rfl, h2⟩ := h
  cases e
  cases q : excField c with
  | none =>
    rw [q] at h2
    obtain ⟨rfl, rfl⟩ := h2
    exact .exc0 q ha hf
  | some f =>
    rw [q] at h2
    obtain ⟨d, y, v, rfl, rfl, h3, nf, r⟩ := h2
    exact .exc1 q ha h3 hf nf r
end Qi
namespace Qi
open PySem PySem.Spec PyProof.Rows L2 LamX
structure ExcI (K : PySem.W.Frag) (C : Addr) : Prop where
  cl : (PySem.W.clsIn K C).isSome = true
  ga : PySem.W.findIn K (.ref C) "__getattribute__" = some (some (.builtin "BaseException.__getattribute__"))
  gt : PySem.W.findIn K (.ref C) "__getattr__" = some none
  sb : PySem.W.subIn K (.ref C) (.type "BaseException") = some true
  ca : PySem.W.findIn K (.ref C) "__class__" = some (some (.builtin "object.__class__"))
  sp : PySem.W.specialIn K (.builtin "object.__class__") "__get__" = some (some (.builtin "getset_descriptor.__get__"))
  tk : PySem.W.takesIn K (.builtin "object.__class__") = some true
  mo : PySem.W.mroIn K C (.type "object") = some true
  hd : PySem.W.hasDictIn K C = true
/-- such an exception stands at a -/
def ExAt (H : Hp) (a D : Addr) : Prop := (∃ d fs, H a = some (ExV (.ref D) (some d) a) ∧ H d = some (.xd fs)) ∨ H a = some (ExV (.ref D) none a)
theorem ExAt.inst {X : Cx} {pins : List (Addr × Obj)} {σ : L2.St} {H : Hp} {s : Shared} {a D : Addr} (I : Inv X pins σ H s) (h : ExAt H a D) : ∃ ox od, PySem.W.InstAt s.heap a ox D od := by
  rcases h with ⟨d, fs, h1, h2⟩ | h1
  · obtain ⟨⟨oe, vs, z1, z2, z3, z4⟩, _, _⟩ := I.hok a _ h1
    obtain ⟨mA, ⟨ob, es, ep, ho, _⟩, _⟩ := I.hok d _ h2
    exact ⟨oe, some ob, z1, z2, by unfold PySem.W.notCls; rw [z4] <;> rfl, by rw [z3]; exact ho⟩
  · obtain ⟨⟨oe, vs, z1, z2, z3, z4⟩, _, _⟩ := I.hok a _ h1
    exact ⟨oe, none, z1, z2, by unfold PySem.W.notCls; rw [z4] <;> rfl, by rw [z3]; exact True.intro⟩
def rIsX (K : PySem.W.Frag) : List V → Hp → VK → Prop := fun xs H Q => ∃ (a D : Addr) (c : V) (cv : Value) (b : Bool), xs = [.ref a, c] ∧ (∀ u, RelV c u → u = cv) ∧ ExAt H a D ∧ ExcI K D ∧ PySem.W.kitOne K (.ref D) cv = some b ∧ Q (.bl b) H
theorem call_isX {X : Cx} : CallR X (.builtin "isinstance") (rIsX X.K) := by
  intro pins s σ H xs us Q I r h
  obtain ⟨a, D, c, cv, b, rfl, hcv, hat, E, e, q⟩ := h
  cases r with
  | cons rx rr =>
    cases rr with
    | cons rt rr =>
      cases rr
      cases rx
      have ec := hcv _ rt
      subst ec
      obtain ⟨ox, od, J⟩ := hat.inst I
      exact PySem.W.kia_one (PySem.W.kitx_exc E.cl E.ga E.gt E.sb E.ca E.sp E.tk E.mo) I.kIn J e (fun z => nomatch z) fun tk => ⟨.bl b, H, I.kept (t' := tk) fun _ _ z => z, rfl, q⟩
/-- the meaning -/
def oIsE (ct : Nat → Option Bool) : D → Sto → Res D
  | .exc c _, S => match ct c with
    | some b => .ok (.bl b) S
    | none => .stuck
  | _, _ => .stuck
theorem RD.exAt {w : Wo} {c : Nat} {fs : List D} {v : V} (h : RD w (.exc c fs) v) : ∃ a, v = .ref a ∧ ExAt w.H a (w.K.cl c) := by
  cases h with
  | exc1 hf h1 h2 f1 f2 r => exact ⟨_, rfl, .inl ⟨_, _, h1, h2⟩⟩
  | exc0 hf h1 f1 => exact ⟨_, rfl, .inr h1⟩
def xIsE (ct : Nat → Option Bool) (m : Ex) : Ex := fun σ S => (m σ S).bind (oIsE ct)
def oFldE (ok : Nat → Bool) (f : Str) : D → Sto → Res D
  | .exc c [y], S => if excField c = some f ∧ ok c = true then .ok y S else .stuck
  | _, _ => .stuck
def xFldE (ok : Nat → Bool) (f : Str) (m : Ex) : Ex := fun σ S => (m σ S).bind (oFldE ok f)
section
variable {X : Cx} {Z : Env1} {e t : Expr} {ma : Ex} {pos p : Pos} {ct : Nat → Option Bool} {cv : V} {cval : Value} {f : Str}
theorem de_isE (hg : Gl X "isinstance") (hm : X.mg "isinstance" = none) (hb : bootBuiltins "isinstance" = some (.builtin "isinstance")) (ha : DB X Z e ma) (hy : PE X t (tC cv)) (hcv : ∀ u, RelV cv u → u = cval) (hct : ∀ c b, ct c = some b → ExcI X.K (Z.K.cl c) ∧ PySem.W.kitOne X.K (.ref (Z.K.cl c)) cval = some b)
    (he : starEach [e, t] X.env = (false, eval e X.env) :: starEach [t] X.env := by rfl) (he2 : starEach [t] X.env = (false, eval t X.env) :: starEach [] X.env := by rfl) (hpl : (backTo pos (starEach [t] X.env)).any (·.1) = false := by rfl) :
    DE X Z (.Call (.Name "isinstance" p) [e, t] [] pos) (xIsE ct ma) :=
  PE.imp (pe_callB call_isX hg hm hb (pa_cons ha (pa_cons hy pa_nil he2) he) (by decide) (by decide) he hpl) fun σV H Q q => by
    obtain ⟨g, j, σ, S, R, h⟩ := q
    refine ⟨g, j, σ, S, R, OutR.bind (fun d S1 j1 v H1 R1 s1 rd h1 => ?_) h⟩
    cases d with
    | exc c fs =>
      obtain ⟨a, rfl, hat⟩ := (RB.rd rd fun _ z => nomatch z).exAt
      simp only [oIsE] at h1
      cases q : ct c with
      | none => rw [q] at h1; exact h1.elim
      | some b =>
        rw [q] at h1
        obtain ⟨E, k⟩ := hct c b q
        exact ⟨a, _, cv, cval, b, rfl, hcv, hat, E, k, h1 j1 _ H1 R1 .refl (.bl b)⟩
    | _ => exact h1.elim
/-- e.f -/
theorem de_xfE {ok : Nat → Bool} (hE : ∀ c, excField c = some f → ok c = true → ExcI X.K (Z.K.cl c) ∧ PySem.W.findIn X.K (.ref (Z.K.cl c)) f = some none) (ha : DE X Z e ma) (hb : attributeBase e f X.env (eval e X.env) = eval e X.env) : DE X Z (.Attribute e f pos) (xFldE ok f ma) := by
  refine ⟨fun pins s σV H Q I q => ?_⟩
  obtain ⟨g, j, σ, S, R, h⟩ := q
  let W : VK := fun v H1 => ∃ a D d y, v = .ref a ∧ H1 a = some (ExV (.ref D) (some d) a) ∧ H1 d = some (.xd [(f, y)]) ∧ ExcI X.K D ∧ PySem.W.findIn X.K (.ref D) f = some none ∧ Q y H1
  have h0 : OutR Z g j σ S σV H RD W (ma σ S) := OutR.bind (fun d S1 j1 v H1 R1 s1 rd h1 => by
    cases d with
    | exc c fs =>
      cases rd with
      | exc1 hf h1' h2 f1 f2 r =>
        simp only [oFldE] at h1
        split at h1
        · rename_i hf2
          obtain ⟨hf2, hok⟩ := hf2
          rw [hf] at hf2
          cases hf2
          obtain ⟨E, k⟩ := hE c hf hok
          exact ⟨_, _, _, _, rfl, h1', h2, E, k, h1 j1 _ H1 R1 .refl r⟩
        · exact h1.elim
      | exc0 hf h1' f1 => exact h1.elim
    | _ => exact h1.elim) h
  refine attr_of hb (thn (ha.run pins s σV H W I ⟨g, j, σ, S, R, h0⟩) fun u s1 hh => ?_)
  obtain ⟨x, H1, I1, rx, a, D, d, y, rfl, h1, h2, E, hno, q⟩ := hh
  obtain rfl : u = Value.ref a := rx
  obtain ⟨⟨oe, vs, z1, z2, z3, z4⟩, _, _⟩ := I1.hok a _ h1
  obtain ⟨mA, hns, hr⟩ := I1.hok d _ h2
  obtain ⟨od, ho, hl⟩ := lookIn_ns hns
  obtain ⟨u, hu, ru⟩ := RelO.some_of (v := y) (o := mA f) (by have := hr f; simpa [List.lookup] using this)
  have J : PySem.W.InstAt s1.heap a oe D (some od) := ⟨z1, z2, by unfold PySem.W.notCls; rw [z4] <;> rfl, by rw [z3]; exact ho⟩
  exact HandSPX.exc_get I1.kIn J E.ga E.gt E.sb (PySem.W.findObj_own E.hd hno rfl (by rw [hl, hu])) (handed_of ru) ⟨y, H1, I1.tok _, ru, q⟩
end
end Qi
namespace Qi
open PySem PySem.Spec PyProof.Rows L2 LamX
structure LamG (sc scope : Scope) (o : Option Str) : Prop where
  kind : scope.kind = .function
  co : scope.isCoroutine = false
  gen : scope.isGenerator = false
  par : ∀ x, o = some x → scope.names.lookup x = some .local
  own : ∀ y ∈ scope.names, y.2 ≠ .cell ∧ (y.2 = .local → o = some y.1)
  free : ∀ y ∈ scope.names, y.2 = .free → sc.names.lookup y.1 = some .cell ∨ sc.names.lookup y.1 = some .free
def lamGB (sc scope : Scope) (o : Option Str) : Bool :=
  decide (scope.kind = .function) && !scope.isCoroutine && !scope.isGenerator && (match o with
    | some x => decide (scope.names.lookup x = some .local)
    | none => true) && scope.names.all fun y => !decide (y.2 = .cell) && (!decide (y.2 = .local) || decide (o = some y.1)) && (!decide (y.2 = .free) || decide (sc.names.lookup y.1 = some .cell) || decide (sc.names.lookup y.1 = some .free))
theorem lamG_by {sc scope : Scope} {o : Option Str} (h : lamGB sc scope o = true) : LamG sc scope o := by
  unfold lamGB at h
  simp only [Bool.and_eq_true, Bool.or_eq_true, Bool.not_eq_true', decide_eq_true_eq, decide_eq_false_iff_not, List.all_eq_true] at h
  obtain ⟨⟨⟨⟨h1, h2⟩, h3⟩, h4⟩, h5⟩ := h
  refine ⟨h1, h2, h3, fun x e => ?_, fun y hy => ⟨(h5 y hy).1.1, fun e => (h5 y hy).1.2.resolve_left fun z => z e⟩, fun y hy e => ?_⟩
  · subst e
    simpa using h4
  · rcases (h5 y hy).2 with (z | z) | z
    · exact absurd e z
    · exact .inl z
    · exact .inr z
def bsO (o : Option Str) (u : Value) : List (Str × Value) := match o with
  | none => []
  | some x => [(x, u)]
def setO {α : Type} (o : Option Str) (i : Nat) (v : α) (σ : List (Option α)) : List (Option α) := match o with
  | none => σ
  | some _ => σ.set i (some v)
abbrev lamF (X : Cx) (params : Arguments) (body : Expr) (scope : Scope) (dV doc pm : Value) (c' : Addr) (ctv : Value) : FuncData := PySem.W.kdv_fn "<lambda>" (lamQ X) params (.expr body) scope (cloFrom X.env.cells scope.names []) dV doc pm (.ref c') ctv
abbrev lamD (X : Cx) (params : Arguments) (body : Expr) (scope : Scope) (dV doc pm : Value) (c' : Addr) (ctv : Value) : Obj := { cls := .type "function", data := .func (lamF X params body scope dV doc pm c' ctv) }
section
variable {X : Cx} {pins : List (Addr × Obj)} {σ : L2.St} {H : Hp} {s : Shared}
theorem LamG.has {scope : Scope} {o : Option Str} (L : LamG X.env.scope scope o) (ok : X.Ok) : ∀ y ∈ scope.names, y.2 = .free → ∃ c, X.env.cells.lookup y.1 = some c := fun y hy e => ok.has _ (L.free y hy e)
theorem off_stk (I : Inv X pins σ H s) {b : Addr} (h : s.heap.objs.size ≤ b) : b ∉ frs X.stack := fun z => by
  rcases List.mem_cons.mp (I.stkSub _ z) with e | e
  · have q := I.lt
    rw [← e] at q
    exact Nat.lt_irrefl _ (Nat.lt_of_lt_of_le q h)
  · exact I.nofs h e
/-- the function object, its defaults at hand -/
theorem lamTail {T : List (Addr × Str)} {c P : Addr} {params : Arguments} {body : Expr} {scope : Scope} {pos : Pos} {dV : Value} {E Q : Value → Shared → Prop} (I : Inv X pins σ H s) (B : TabB X.base X.mg c P) (hcode : X.env.code = .ref c)
    (hm : (P, lamQ X) ∈ T) (hu : ∀ p ∈ T, p.1 = P → p.2 = lamQ X) (hT : Tabs T H) (hfr : ∀ y ∈ scope.names, y.2 = .free → ∃ c, X.env.cells.lookup y.1 = some c)
    (h : ∀ (f c' : Addr) (doc pm ctv : Value) (H1 : Hp) (s1 : Shared), Inv X pins σ H1 s1 → Grow H H1 → Tabs T H1 → (∀ b o, s.heap.get? b = some o → H b = none → s1.heap.get? b = some o ∧ H1 b = none) → s1.heap.get? f = some (lamD X params body scope dV doc pm c' ctv) → H1 f = none → s.heap.objs.size ≤ f → H1 c' = some (CodeO c' (lamQ X)) → Q (.ref f) s1) :
    wpAny (model X.prog X.w) X.A (makeTail "<lambda>" (lamQ X) params (.expr body) scope X.env dV .none none pos pos.line) Q E s := by
  obtain ⟨ps, tP, tOk, tAll⟩ := hT _ hm
  have oP : s.heap.get? P = some { cls := .none, data := .fields ps } := I.hok P _ tP
  have gl := I.mod.glob.keeps I.bk
  have bP := B.bm.keeps I.bk
  rcases hc : codeAmong pos ps.toList with _ | cv
  · refine PySem.W.kdv_makeTail (closure_ok hfr) I.ok.glob gl hcode (B.code.keeps I.bk) oP tOk hc B.gP bP fun c' ctv doc h' tk hx hge hlt hrec htb => ?_
    obtain ⟨c2, oc, vs, t, e2, hoc, hdt, hv⟩ := hrec
    cases e2
    have nC : H c' = none := I.hok.fresh hge
    have nPC : P ≠ c' := ne_of_none tP nC
    let more : Array Value := #[rawInt pos.line, rawInt pos.col, .ref c']
    let H1 : Hp := upd (upd H P (.tbl (ps ++ more))) c' (CodeO c' (lamQ X))
    have I1 : Inv X pins σ H1 _ := inv_table (t' := tk) (more := more) (h' := h'.push (lamD X params body scope dV doc ((X.mg "__name__").getD .none) c' ctv)) I tP (fun b o hb e => Heap.get?_push_of_some _ (hx b o hb e)) (Heap.get?_push_of_some _ htb) hge ⟨oc, vs, t, Heap.get?_push_of_some _ hoc, hdt, hv⟩
    have oth : ∀ b o, H b = some o → b ≠ P → H1 b = some o := fun b o e n => by
      show upd (upd H P _) c' _ b = _
      rw [upd_ne (ne_of_none e nC), upd_ne n]; exact e
    have atP : H1 P = some (.tbl (ps ++ more)) := by
      show upd (upd H P _) c' _ P = _
      rw [upd_ne nPC, upd_same]
    have gr : Grow H H1 := ⟨fun b o e n => oth b o e fun z => n ps (by rw [z, tP] at e; exact (Option.some.inj e).symm), fun b o e => by
      by_cases hb : b = P
      · exact ⟨_, by rw [hb]; exact atP⟩
      · exact ⟨o, oth b o e hb⟩⟩
    have eL : (ps ++ more).toList = ps.toList ++ [rawInt pos.line, rawInt pos.col, .ref c'] := by simp [more]
    have hsz : s.heap.objs.size ≤ h'.objs.size := Nat.le_trans hge (Nat.le_of_lt hlt)
    refine h h'.objs.size c' doc _ ctv H1 _ I1 gr (fun p hp => ?_) (fun b o e n => ?_) (Heap.get?_push_size _ rfl) ?_ hsz upd_same
    · by_cases hb : p.1 = P
      · refine ⟨_, by rw [hb]; exact atP, by rw [eL]; exact PySem.TriplesOk_snoc _ _ _ _ tOk, fun p' w hw => ?_⟩
        rw [eL] at hw
        rw [hu p hp hb]
        rcases among_app _ tOk hw with z | z
        · obtain ⟨c0, e1, e2⟩ := tAll p' w z
          exact ⟨c0, e1, gr.keep _ _ e2 codeO_ne⟩
        · exact ⟨c', z, upd_same⟩
      · obtain ⟨qs, a1, a2, a3⟩ := hT p hp
        exact ⟨qs, oth _ _ a1 hb, a2, fun p' w hw => (a3 p' w hw).imp fun c0 z => ⟨z.1, gr.keep _ _ z.2 codeO_ne⟩⟩
    · have hbP : b ≠ P := fun z => by rw [z, tP] at n; cases n
      have hbc : b ≠ c' := Nat.ne_of_lt (Nat.lt_of_lt_of_le (Heap.lt_size e) hge)
      refine ⟨Heap.get?_push_of_some _ (hx b o hbP e), ?_⟩
      show upd (upd H P _) c' _ b = _
      rw [upd_ne hbc, upd_ne hbP]; exact n
    · show upd (upd H P _) c' _ h'.objs.size = _
      rw [upd_ne (Nat.ne_of_gt hlt), upd_ne (Nat.ne_of_gt (Nat.lt_of_lt_of_le (Heap.lt_size oP) hsz))]
      exact I.hok.fresh hsz
  · obtain ⟨c', e, hco⟩ := tAll pos cv hc
    subst e
    exact PySem.W.kdv_makeTailHit (closure_ok hfr) I.ok.glob gl hcode (B.code.keeps I.bk) oP tOk hc bP fun ctv doc h' tk hx hsz =>
      h h'.objs.size c' doc ((X.mg "__name__").getD .none) ctv H _ (I.kept (t' := tk) fun b o e => Heap.get?_push_of_some _ (hx b o e)) .refl hT (fun b o e n => ⟨Heap.get?_push_of_some _ (hx b o e), n⟩) (Heap.get?_push_size _ rfl) (I.hok.fresh hsz) hsz hco
/-- what the lambda's parameters are given -/
def BindL (s : Shared) (H : Hp) (stk : List Env) (fd : FuncData) (bs : List (Str × Value)) : Prop := ∀ s1 : Shared, (∀ b o, s.heap.get? b = some o → H b = none → b ∉ frs stk → s1.heap.get? b = some o) → BindsTo s1 fd ⟨[], []⟩ bs
/-- lambda: body -/
theorem lam0_make {T : List (Addr × Str)} {c P : Addr} {params : Arguments} {body : Expr} {scope : Scope} {pos : Pos} {E Q : Value → Shared → Prop} (I : Inv X pins σ H s) (B : TabB X.base X.mg c P) (hcode : X.env.code = .ref c)
    (hm : (P, lamQ X) ∈ T) (hu : ∀ p ∈ T, p.1 = P → p.2 = lamQ X) (hT : Tabs T H) (hfr : ∀ y ∈ scope.names, y.2 = .free → ∃ c, X.env.cells.lookup y.1 = some c) (hd : defaultsOf params X.env = ([], []))
    (hb : ∀ (q : Str) (cl : List (Str × Addr)) (doc pm cv ctv : Value), bindArgs (PySem.W.kdv_fn "<lambda>" q params (.expr body) scope cl .none doc pm cv ctv) ⟨[], []⟩ = pure [])
    (h : ∀ (f c' : Addr) (dV doc pm ctv : Value) (H1 : Hp) (s1 : Shared), Inv X pins σ H1 s1 → Grow H H1 → Tabs T H1 → BindL s1 H1 X.stack (lamF X params body scope dV doc pm c' ctv) [] → s1.heap.get? f = some (lamD X params body scope dV doc pm c' ctv) → H1 f = none → f ∉ frs X.stack → H1 c' = some (CodeO c' (lamQ X)) → Q (.ref f) s1) :
    wpAny (model X.prog X.w) X.A (eval (.Lambda params body scope pos) X.env) Q E s := by
  refine PySem.W.kla_eval hd ?_
  rw [makeFunction_eq]
  simp only [List.zip_nil_right, List.filterMap_nil, List.isEmpty_nil, if_true, pure_bind]
  exact lamTail I B hcode hm hu hT hfr fun f c' doc pm ctv H1 s1 I1 gr T1 kp hf hn hz hc => h f c' .none doc pm ctv H1 s1 I1 gr T1 (fun s2 _ => .of_eq (hb _ _ _ _ _ _)) hf hn (off_stk I hz) hc
/-- lambda x=n: body -/
theorem lam1_make {T : List (Addr × Str)} {c P : Addr} {params : Arguments} {body : Expr} {scope : Scope} {pos p1 : Pos} {n : Int} {kk : Nat} {x : Str} {E Q : Value → Shared → Prop} (I : Inv X pins σ H s) (B : TabB X.base X.mg c P) (hcode : X.env.code = .ref c)
    (hm : (P, lamQ X) ∈ T) (hu : ∀ p ∈ T, p.1 = P → p.2 = lamQ X) (hT : Tabs T H) (hfr : ∀ y ∈ scope.names, y.2 = .free → ∃ c, X.env.cells.lookup y.1 = some c) (hd : params.defaults = [.Constant (.int n) kk p1]) (hk : params.kw_defaults = [])
    (hb : ∀ (q : Str) (cl : List (Str × Addr)) (dV doc pm cv ctv u : Value), ∃ k : Option (Array Value) → Sem (List (Str × Value)), bindArgs (PySem.W.kdv_fn "<lambda>" q params (.expr body) scope cl dV doc pm cv ctv) ⟨[], []⟩ = seqItems? dV >>= k ∧ k (some #[u]) = pure [(x, u)])
    (h : ∀ (f c' : Addr) (dV doc pm ctv u : Value) (H1 : Hp) (s1 : Shared), Inv X pins σ H1 s1 → Grow H H1 → Tabs T H1 → RelV (.int n) u → BindL s1 H1 X.stack (lamF X params body scope dV doc pm c' ctv) [(x, u)] → s1.heap.get? f = some (lamD X params body scope dV doc pm c' ctv) → H1 f = none → f ∉ frs X.stack → H1 c' = some (CodeO c' (lamQ X)) → Q (.ref f) s1) :
    wpAny (model X.prog X.w) X.A (eval (.Lambda params body scope pos) X.env) Q E s := by
  refine PySem.W.kdv_lam (by rw [hd]; rfl) hk ?_
  rw [hd]
  refine PySem.W.kdv_all1 (wpAny_Constant_int (PySem.W.kdv_all0 ?_))
  generalize hu0 : (Value.int n _ : Value) = u
  have rv : RelV (.int n) u := ⟨_, hu0.symm⟩
  have I0 := I.tok (s.toks + 1)
  generalize ({ s with toks := s.toks + 1 } : Shared) = s0 at I0 ⊢
  rw [makeFunction_eq]
  simp only [List.zip_nil_right, List.filterMap_nil, List.isEmpty_nil, if_true, pure_bind, List.isEmpty_cons, Bool.false_eq_true, if_false]
  refine wpAny_bind (wpAny_newTextTuple ?_)
  have I2 : Inv X pins σ H { s0 with heap := s0.heap.push (PySem.W.kdv_tup [u]) } := I0.kept (t' := s0.toks) fun b o e => Heap.get?_push_of_some _ e
  refine lamTail I2 B hcode hm hu hT hfr fun f c' doc pm ctv H1 s1 I1 gr T1 kp hf hn hz hc => ?_
  have hz0 : s0.heap.objs.size ≤ f := Nat.le_trans (by show s0.heap.objs.size ≤ (s0.heap.push _).objs.size; rw [Heap.size_push]; omega) hz
  refine h f c' _ doc pm ctv u H1 s1 I1 gr T1 rv (fun s2 k2 => ?_) hf hn (off_stk I0 hz0) hc
  obtain ⟨k, k1, k3⟩ := hb (lamQ X) (cloFrom X.env.cells scope.names []) (.ref s0.heap.objs.size) doc pm (.ref c') ctv u
  obtain ⟨g1, g2⟩ := kp s0.heap.objs.size _ (Heap.get?_push_size _ rfl) (I0.hok.fresh (Nat.le_refl _))
  exact BindsTo.of_defaults (T := s0.heap.objs.size) rfl (k2 _ _ g1 g2 (off_stk I0 (Nat.le_refl _))) rfl k1 k3
end
end Qi
namespace Qi
open PySem PySem.Spec PyProof.Rows L2 LamX
section
variable {X : Cx} {pins : List (Addr × Obj)} {σ : L2.St} {H HZ : Hp} {s s1 : Shared}
theorem setO_len {α : Type} {o : Option Str} {i : Nat} {v : α} {σ : List (Option α)} : (setO o i v σ).length = σ.length := by
  cases o <;> simp [setO]
theorem lamG_start {A : Around} {outer : List Env} {E : XK} {scope : Scope} {f c' : Addr} {h₁ : Heap} {tk i : Nat} {o : Option Str} {v : V} {u : Value} (I : Inv X pins σ H s) (L : LamG X.env.scope scope o) (e0 : Env0 X.prog X.w X.K X.mg X.base A outer s1 HZ) (hd : A.handled = none) (un : Un (frs X.stack) [] H HZ s.heap s1.heap)
    (nd : X.N.Nodup) (hi : ∀ x, o = some x → X.N[i]? = some x) (rv : RelV v u) (hns : h₁.Ns s1.heap.objs.size fun y => (bsO o u).reverse.lookup y) (kp : ∀ b ob, s1.heap.get? b = some ob → h₁.get? b = some ob) :
    Inv (lamCx X A outer s1 HZ E scope f c') [] (setO o i v σ) HZ { s1 with heap := h₁, toks := tk } := by
  have hf := L.has I.ok
  have cm : ∀ {y c}, (cloFrom X.env.cells scope.names []).lookup y = some c → X.env.cells.lookup y = some c := fun {y c} e => by
    rcases cloFrom_mem (PySem.mem_of_lookup e) with hm | ⟨h1, h2⟩
    · cases hm
    · obtain ⟨c1, hc⟩ := hf _ h1 rfl
      have hc' : X.env.cells.lookup y = some c1 := hc
      rw [h2]
      show X.env.cells.lookup y = some ((X.env.cells.lookup y).getD 0)
      rw [hc']; rfl
  have look : ∀ {y}, scope.names.lookup y = some .free → ∃ c, (cloFrom X.env.cells scope.names []).lookup y = some c := fun {y} hl => mem_lookup (cloFrom_has (cells := X.env.cells) (acc := []) (PySem.mem_of_lookup hl))
  have cellU : ∀ {c : Addr} {w : Option Value}, H c = none → s.heap.IsCell c w → h₁.IsCell c w := fun {c w} n ⟨ob, ho, hd⟩ => by
    obtain ⟨sl, q⟩ := un.any ho n (fun z => nomatch z)
    exact ⟨_, kp _ _ q, hd⟩
  have noA : ∀ b : Addr, b ∉ ([] : List Addr) := fun b z => nomatch z
  refine ⟨⟨e0.mod, L.kind, rfl, rfl, Nat.le_refl _, fun y z c e1 e2 => I.ok.inj y z c (cm e1) (cm e2), fun y hy => ?_, fun y c z _ => (nomatch (show false = true from z)), fun _ => hd, Around.frames_deeper e0.frames, .inr ⟨rfl, rfl⟩, fun b z => absurd z (noA b), e0.bs, e0.bsz, fun b _ _ => noA b, fun b z => absurd z (noA b), e0.funs, e0.frf⟩,
    rfl, e0.bare, Un.kept kp, ⟨_, hns, fun n y v' e1 e2 e3 => ?_⟩, fun y c e => ?_, e0.hok.fresh (Nat.le_refl _), fun y c e => ?_, fun q hq => absurd (show q ∈ ([] : List (Addr × Obj)) ++ [] from hq) (by simp), e0.hok.kept kp, by rw [setO_len]; exact I.len⟩
  · rcases (show scope.names.lookup y = some .cell ∨ scope.names.lookup y = some .free from hy) with hy | hy
    · exact absurd rfl (L.own _ (PySem.mem_of_lookup hy)).1
    · exact look hy
  · have e1 : X.N[n]? = some y := e1
    rcases (show Vis scope y from e3) with k | k | k
    · have eo := (L.own _ (PySem.mem_of_lookup k)).2 rfl
      have eo : o = some y := eo
      subst eo
      have hi := hi y rfl
      obtain rfl := nodup_ix nd e1 hi
      have hl : n < σ.length := by
        rw [I.len]
        exact (List.getElem?_eq_some_iff.mp e1).1
      have e2 : (σ.set n (some v))[n]? = some (some v') := e2
      rw [List.getElem?_set_self hl] at e2
      cases e2
      exact ⟨u, rv, .inl ⟨k, by show List.lookup y [(y, u)] = _; simp [List.lookup]⟩⟩
    · exact absurd rfl (L.own _ (PySem.mem_of_lookup k)).1
    · have e2 : σ[n]? = some (some v') := by
        cases o with
        | none => exact e2
        | some x =>
          have hi := hi x rfl
          have hni : i ≠ n := fun z => by
            subst z
            rw [hi] at e1
            cases e1
            rw [L.par _ rfl] at k
            cases k
          have e2 : (σ.set i (some v))[n]? = some (some v') := e2
          rw [List.getElem?_set_ne hni] at e2
          exact e2
      obtain ⟨m, hn, hl⟩ := I.loc
      have fr := L.free _ (PySem.mem_of_lookup k) rfl
      obtain ⟨w', r, q⟩ := hl n y v' e1 e2 (fr.elim (fun z => .inr (.inl z)) fun z => .inr (.inr z))
      obtain ⟨c2, h2⟩ := look k
      refine ⟨w', r, .inr ⟨.inr k, c2, h2, ?_⟩⟩
      rcases q with ⟨k', _⟩ | ⟨_, c3, e', z⟩
      · have k' : X.env.scope.names.lookup y = some .local := k'
        rcases fr with k2 | k2 <;> rw [show X.env.scope.names.lookup y = _ from k2] at k' <;> cases k'
      · have c1 := cm h2
        rw [c1] at e'
        cases e'
        exact cellU (I.freeC y _ c1) z
  · obtain ⟨w', z⟩ := I.cell y c (cm e)
    exact ⟨w', cellU (I.freeC y c (cm e)) z⟩
  · obtain ⟨w', ob, ho, _⟩ := I.cell y c (cm e)
    exact un.free c ob ho (I.freeC y c (cm e)) (fun z => nomatch z)
/-- the frame of the def that was handed a lambda -/
abbrev cxH (P : Program) (w : World) (K : PySem.W.Frag) (mg : Str → Option Value) (base : Heap) (Ng : List Str) (qg : Str) (sg : Scope) (g : Addr) (cdg : Value) (A : Around) (outer : List Env) (s : Shared) (H : Hp) (E : XK) : Cx := cxOf (L2.CX P w) P w K mg base Ng qg sg g cdg A outer s H E
/-- a(), a the lambda, called in that def -/
theorem pe_actG {Eg : XK} {Ng : List Str} {qg : Str} {sg : Scope} {g f c' : Addr} {cdg dV doc pm ctv : Value} {params : Arguments} {body : Expr} {scope : Scope} {k i : Nat} {a : Str} {o : Option Str} {v : V} {u : Value} {pn : List (Addr × Obj)} {xe : Value → Shared → Prop} {W : WX} {tb : XK → TE} {p1 p2 : Pos}
    (I : Inv X pins σ H s) (L : LamG X.env.scope scope o) (hf : s.heap.get? f = some (lamD X params body scope dV doc pm c' ctv)) (hfn : H f = none) (hfr : f ∉ frs X.stack) (bind : BindL s H X.stack (lamF X params body scope dV doc pm c' ctv) (bsO o u)) (nd : X.N.Nodup) (hi : ∀ x, o = some x → X.N[i]? = some x) (rv : RelV v u)
    (tk : Takes ((cxH X.prog X.w X.K X.mg X.base Ng qg sg g cdg X.A X.stack s H Eg).tr pn xe) W) (hr : Room (k + 1) (X.A.deeper (envOfC qg sg s.heap.objs.size g cdg)))
    (hbody : ∀ (A : Around) (outer : List Env) (s : Shared) (H : Hp) (E : XK), Room k (A.deeper (lamEnv X scope s.heap.objs.size f c')) → PE (lamCx X A outer s H E scope f c') body (tb E))
    (hN : Ng[0]? = some a) (hv : Vis sg a) (hd : (a == ("__debug__" : Str)) = false) (hcd : (a == ("__classdict__" : Str)) = false) :
    PE ((cxH X.prog X.w X.K X.mg X.base Ng qg sg g cdg X.A X.stack s H Eg).tr pn xe) (.Call (.Name a p1) [] [] p2)
      (fun τ HZ Q => τ[0]? = some (some (.ref f)) ∧ HZ c' = some (CodeO c' (lamQ X)) ∧ tb (fun cls d H' => W cls d τ H') (setO o i v σ) HZ Q) := by
  refine ⟨fun pinsZ sZ τ HZ Q IZ h => ?_⟩
  obtain ⟨hs, hc, ht⟩ := h
  have nm := (pe_var (X := (cxH X.prog X.w X.K X.mg X.base Ng qg sg g cdg X.A X.stack s H Eg).tr pn xe) (pos := p1) (i := 0) hN hv hd hcd).run pinsZ sZ τ HZ (fun v H1 => v = .ref f ∧ H1 = HZ) IZ ⟨.ref f, hs, rfl, rfl⟩
  refine wpAny_Call_Name_kw (thn nm fun w1 s1 hh => ?_)
  obtain ⟨w2, H1, I1, r1, e1, e2⟩ := hh
  subst e1
  rw [e2] at I1
  obtain rfl : w1 = Value.ref f := r1
  have kept : ∀ b ob, s.heap.get? b = some ob → H b = none → b ∉ frs X.stack → s1.heap.get? b = some ob := fun b ob e n nf => I1.base.keep b ob e n nf (fun z => nomatch (show b ∈ ([] : List Addr) from z))
  have at1 := kept f _ hf hfn hfr
  refine PySem.W.callWith_F0 ⟨_, _, _, _, at1⟩ ?_
  obtain ⟨⟨oc, vs, t, hoc, hdc, hvc⟩, _, _⟩ := I1.hok c' _ hc
  have rc : codeAny (model X.prog X.w) (X.A.deeper (envOfC qg sg s.heap.objs.size g cdg)) (.call (.ref f) ⟨[], []⟩) (CR (L2.CX X.prog X.w) (envOfC qg sg s.heap.objs.size g cdg :: X.stack) X.prog X.w HZ s1 Q (fun cls d H' => W cls d τ H')) s1 := by
    refine PySem.W.kla_callFunE hr.depth at1 rfl L.co L.gen rfl ⟨c', oc, vs, t, rfl, hoc, hdc, hvc⟩ (bind s1 kept _ _ _ _ ?_)
    refine wpAny_newFunctionEnv (fun y hy => (L.own y hy).1) (fun y hy => ?_) (fun h₁ hns hsb => ⟨I1.nolimit.fresh _ hsb, ?_⟩) L.kind
    · cases o with
      | none => exact absurd hy (by simp [bsO])
      | some x =>
        obtain rfl : y = (x, u) := by simpa [bsO] using hy
        exact L.par x rfl
    · have kp : ∀ b ob, s1.heap.get? b = some ob → h₁.get? b = some ob := fun b ob e => hsb.extBut b ob (Nat.ne_of_lt (Heap.lt_size e)) (Heap.get?_push_of_some _ e)
      have J := lamG_start (E := fun cls d H' => W cls d τ H') (f := f) (c' := c') (tk := s1.toks + (bsO o u).length) I L I1.env0 hr.hd I1.base nd hi rv hns kp
      refine PySem.W.kla_codeExpr (wpAny_mono ((hbody _ _ s1 HZ _ (hr.deeper _)).run [] _ _ HZ Q J ht) (fun v' s' hq => ?_) fun e s' hq => hq)
      obtain ⟨w', H', J', rv', q⟩ := hq
      exact ⟨w', H', J'.os, J'.bare, J'.base, J'.hok, rv', q⟩
  refine wpAny_call (codeAny_mono rc fun r s' hq => ?_)
  cases r with
  | error e => exact tk e s' (XE.of_call I1 (fun _ _ _ z => z) hq)
  | ok fl =>
    cases fl with
    | ret w3 => exact I1.after hq
    | _ => exact False.elim hq
end
end Qi
namespace Qi
open PySem PySem.Spec PyProof.Rows L2 LamX
def hres (cf : Cf) (fH : Nat) (ls : Bool) (ct : Nat → Bool) : Res D → Res D
  | .ok d S1 => cf fH [if ls = true then .lst [d] else d, .non] S1
  | .exc (.exc c fs) S1 => if ct c = true then cf fH [if ls = true then .lst [] else .non, .exc c fs] S1 else .stuck
  | _ => .stuck
def xHeard (cf : Cf) (fH : Nat) (ls : Bool) (ct : Nat → Bool) (m : Ex) : Ex := fun σ S => hres cf fH ls ct (m σ S)
def OutN (K : Kx) (g : Gd) (Q : VK) (E : XK) : Res D → Prop
  | .ok d S' => ∀ j' v H', Rel K nolin g j' [] S' [] H' → RD (wo K nolin g.B j' [] S' [] H') d v → Q v H'
  | .exc x S' => ∀ j' cls dd H', Rel K nolin g j' [] S' [] H' → RX (wo K nolin g.B j' [] S' [] H') x cls dd → E cls dd H'
  | .stuck => False
def OutS (K : Kx) (g : Gd) (j : Nat → Addr) (N : Nat) (H : Hp) (Q : VK) (E : XK) : Res D → Prop
  | .ok d S' => ∀ j' v H', Rel K nolin g j' [] S' [] H' → Stp j N H j' S'.length H' → RD (wo K nolin g.B j' [] S' [] H') d v → Q v H'
  | .exc x S' => ∀ j' cls dd H', Rel K nolin g j' [] S' [] H' → Stp j N H j' S'.length H' → RX (wo K nolin g.B j' [] S' [] H') x cls dd → E cls dd H'
  | .stuck => False
/-- the lambda's reading, told where no slots are -/
def LamSem (K : Kx) (g : Gd) (r : Sto → Res D) (tl : XK → Hp → VK → Prop) : Prop :=
  ∀ (E : XK) (Q : VK) (j : Nat → Addr) (S : Sto) (H : Hp), Rel K nolin g j [] S [] H → OutS K g j S.length H Q E (r S) → tl E H Q
section
variable {K : Kx} {lin : Nat → Bool} {g : Gd} {j : Nat → Addr} {σ : Sl} {S : Sto} {σV : L2.St} {H : Hp}
theorem nl_of (hs : ∀ (i : Nat) (d : D), σ[i]? = some (some d) → lin i = false) {i : Nat} {a : Addr} : ¬ LinA lin σ σV i a := fun ⟨h1, ⟨d, h2, _⟩, _⟩ => by
  rw [hs i d h2] at h1; cases h1
theorem le_load (hs : ∀ (i : Nat) (d : D), σ[i]? = some (some d) → lin i = false) {B : Addr → Prop} : (wo K nolin B j [] S [] H).Le (wo K lin B j σ S σV H) :=
  ⟨rfl, rfl, fun a o _ h f => ⟨h, fun z => f (z.imp (fun y => y) fun y => y.imp (fun u => u) fun ⟨i, u⟩ => (nl_of hs u).elim)⟩, fun _ _ => rfl, Nat.le_refl _⟩
theorem Rel.load (R : Rel K nolin g j [] S [] H) (hl : σ.length = σV.length) (hs : ∀ (i : Nat) (d : D), σ[i]? = some (some d) → lin i = false) (hv : ∀ (i : Nat) (d : D), σ[i]? = some (some d) → ∃ v, σV[i]? = some (some v) ∧ RD (wo K nolin g.B j [] S [] H) d v) : Rel K lin g j σ S σV H :=
  ⟨hl, R.inj, fun i a n h => (nl_of hs h).elim, fun i i' a h => (nl_of hs h).elim, R.oc, fun i a h => (nl_of hs h).elim, fun a h => R.trk a (h.imp (fun y => y) fun y => y.imp (fun u => u) fun ⟨i, u⟩ => (nl_of hs u).elim), fun i d e => by
    obtain ⟨v, ev, r⟩ := hv i d e
    exact ⟨v, ev, fun _ => r.mono (le_load hs), fun z => by rw [hs i d e] at z; cases z⟩, fun n c e => (R.cells n c e).mono (le_load hs) fun o _ h => h, R.frame, R.newc, fun i a h => (nl_of hs h).elim, R.n0, R.ag, R.dom, R.tabs⟩
end
def v0 (ls : Bool) (p : Addr) : V := if ls = true then .ref p else .non
def o0 (ls : Bool) : HO := if ls = true then .lst [] else .tup [.non, .non]
def tH0 (ls : Bool) : TS := fun D σ H => ∀ p, H p = none → D.nx ((σ.set 1 (some (v0 ls p))).set 2 (some .non)) (upd H p (o0 ls))
def tHT (ls : Bool) (ta : TE) : TS := if ls = true then tAsg (tLst (tCons ta tNil)) (gName 1) else tAsg ta (gName 1)
/-- the slots behind the try -/
def σH (n : Nat) (tv ev : D) : Sl := none :: some tv :: some ev :: List.replicate n none
def finR : Res Fl → Res D
  | .ok (.ret d) S' => .ok d S'
  | .ok (.next _) S' => .ok .non S'
  | .exc x S' => .exc x S'
  | _ => .stuck
/-- what is promised of such a def -/
def HdOk (P : Program) (w : World) (K : Kx) (mg : Str → Option Value) (base : Heap) (k : Nat) (Ng : List Str) (qg : Str) (sg : Scope) (ga : Addr) (cdg : Value) (a : Str) (bg : List Stmt) (cf : Cf) (fH : Nat) (ls : Bool) (ct : Nat → Bool) : Prop :=
  ∀ (A : Around) (outer : List Env) (s : Shared) (H : Hp) (f c' : Addr) (q : Str) (Q : VK) (E : XK) (tl : XK → Hp → VK → Prop) (B : Addr → Prop) (j : Nat → Addr) (S : Sto) (r : Sto → Res D), Room k (A.deeper (envOfC qg sg s.heap.objs.size ga cdg)) →
    (∀ (W : WX) (pn : List (Addr × Obj)) (xe : Value → Shared → Prop) (p1 p2 : Pos), Takes ((cxH P w K.K mg base Ng qg sg ga cdg A outer s H E).tr pn xe) W →
      PE ((cxH P w K.K mg base Ng qg sg ga cdg A outer s H E).tr pn xe) (.Call (.Name a p1) [] [] p2) (fun τ HZ Q => τ[0]? = some (some (.ref f)) ∧ HZ c' = some (CodeO c' q) ∧ tl (fun cls d H' => W cls d τ H') HZ Q)) →
    H c' = some (CodeO c' q) → Rel K nolin ⟨B, H, S.length, j⟩ j [] S [] H → LamSem K ⟨B, H, S.length, j⟩ r tl → OutN K ⟨B, H, S.length, j⟩ Q E (hres cf fH ls ct (r S)) →
    ∃ t, PSs (cxH P w K.K mg base Ng qg sg ga cdg A outer s H E) bg t ∧ t { nx := fun _ H' => Q .non H', rt := Q } (L2.start Ng [.ref f]) H
theorem out_fin {Z : Env1} {g : Gd} {j : Nat → Addr} {σ : Sl} {S : Sto} {σV : L2.St} {H : Hp} {Q : VK} {E : XK} (hZ : Z.W = wishE E) {r : Res Fl} (h : OutN Z.K g Q E (finR r)) : OutC Z g j σ S σV H { nx := fun _ H' => Q .non H', rt := Q } r := by
  match r, h with
  | .ok (.ret v) S', h => exact fun j' u H' R' rd' => h j' u H' R'.relin (rd'.mono le_relin)
  | .ok (.next σ) S', h => exact fun j' σV' H' R' _ => h j' .non H' (Rel.relin (Rel.drop (Z := Z) R')) .non
  | .exc y S', h => exact fun j' cls dd _ H' R' rx => by rw [hZ]; exact h j' cls dd H' R'.relin (rx.mono le_relin)
  | .ok (.brk _) _, h => exact h.elim
  | .ok (.cnt _) _, h => exact h.elim
  | .stuck, h => exact h.elim
theorem heard_ok {P : Program} {w : World} {K : Kx} {mg : Str → Option Value} {base : Heap} {k n i kk : Nat} {Ng : List Str} {qg : Str} {sg : Scope} {ga C1 C2 : Addr} {cdg : Value} {a told err en x1 x2 : Str} {asg tbody : Stmt} {rest : List Stmt} {cf : Cf} {fH : Nat} {ls : Bool} {ct : Nat → Bool} {lin : Nat → Bool} {mr : Co} {p1 p2 np q1 q2 yp nq ap pos pos' : Pos}
    (nd : Ng.Nodup) (hn : Ng.length = n + 3) (hi : Ng[i]? = some en) (hj : Ng[2]? = some err) (hi3 : 3 ≤ i) (lne : sg.names.lookup en = some .local) (lnr : sg.names.lookup err = some .local) (g1 : sg.names.lookup x1 = some .globalImplicit) (g2 : sg.names.lookup x2 = some .globalImplicit) (m1 : mg x1 = some (.ref C1)) (m2 : mg x2 = some (.ref C2))
    (d1 : (x1 == ("__debug__" : Str)) = false) (d2 : (x2 == ("__debug__" : Str)) = false) (dn : (en == ("__debug__" : Str)) = false) (dn2 : (en == ("__classdict__" : Str)) = false)
    (hct : ∀ c, ct c = true → PySem.W.exmAny K.K (.ref (K.cl c)) [.ref C1, .ref C2] = some true) (l1 : lin 1 = false) (l2 : lin 2 = false)
    (hasg : ∀ (A : Around) (outer : List Env) (s : Shared) (H : Hp) (E : XK), Room k (A.deeper (envOfC qg sg s.heap.objs.size ga cdg)) → PS (cxH P w K.K mg base Ng qg sg ga cdg A outer s H E) asg (tH0 ls))
    (htry : ∀ (A : Around) (outer : List Env) (s : Shared) (H : Hp) (E : XK) (pn : List (Addr × Obj)) (xe : Value → Shared → Prop) (ta : TE), PE ((cxH P w K.K mg base Ng qg sg ga cdg A outer s H E).tr pn xe) (.Call (.Name a p1) [] [] p2) ta → PS ((cxH P w K.K mg base Ng qg sg ga cdg A outer s H E).tr pn xe) tbody (tHT ls ta))
    (hrest : ∀ (A : Around) (outer : List Env) (s : Shared) (H : Hp) (E : XK), Room k (A.deeper (envOfC qg sg s.heap.objs.size ga cdg)) → DSs (cxH P w K.K mg base Ng qg sg ga cdg A outer s H E) ⟨K, lin, wishE E⟩ rest mr)
    (hcf : ∀ tv ev S, cf fH [tv, ev] S = finR (mr (σH n tv ev) S)) :
    HdOk P w K mg base k Ng qg sg ga cdg a (asg :: .Try [tbody] [.ExceptHandler (some (.Tuple [.Name x1 q1, .Name x2 q2] kk np)) (some en) [.Assign [.Name err yp] (.Name en nq) ap] pos'] [] [] pos :: rest) cf fH ls ct := by
  intro A outer s H f c' q Q E tl B j S r hroom act hco R sem out
  let X := cxH P w K.K mg base Ng qg sg ga cdg A outer s H E
  let Z : Env1 := ⟨K, lin, wishE E⟩
  let g : Gd := ⟨B, H, S.length, j⟩
  have tk : Takes X (wishE E) := takes_of rfl rfl rfl rfl
  let ta : WX → TE := fun W τ HZ Q => τ[0]? = some (some (.ref f)) ∧ HZ c' = some (CodeO c' q) ∧ tl (fun cls d H' => W cls d τ H') HZ Q
  have pt := ps_catch (X := X) (np := np) (q1 := q1) (q2 := q2) (yp := yp) (nq := nq) (ap := ap) (pos := pos) (pos' := pos') (kk := kk) (tb := fun W => tHT ls (ta W)) (Wout := wishE E) (body := [tbody]) rfl rfl nd hi lne hj lnr g1 m1 g2 m2 d1 d2 dn dn2 rfl tk fun W pn xe t _ => pss_one (htry A outer s H E pn xe (ta W) (act W pn xe p1 p2 t))
  refine ⟨_, pss_cons (hasg A outer s H E hroom) (pss_cons pt (hrest A outer s H E hroom)), ?_⟩
  intro p hp
  let D0 : Ends := { nx := fun _ H' => Q .non H', rt := Q }
  let D1 : Ends := { D0 with nx := lC Z mr D0 }
  let σ1 : L2.St := ((L2.start Ng [V.ref f]).set 1 (some (v0 ls p))).set 2 (some .non)
  have len0 : (L2.start Ng [V.ref f]).length = n + 3 := by
    unfold L2.start
    rw [List.length_append, List.length_map, List.length_replicate, hn]
    show 1 + (n + 3 - 1) = _
    omega
  have len1 : σ1.length = n + 3 := by
    show ((List.set _ 1 _).set 2 _).length = _
    rw [List.length_set, List.length_set, len0]
  have s0 : σ1[0]? = some (some (.ref f)) := by
    show ((List.set _ 1 _).set 2 _)[0]? = _
    rw [List.getElem?_set_ne (by decide), List.getElem?_set_ne (by decide)]
    rfl
  have s2 : σ1[2]? = some (some .non) := List.getElem?_set_self (by rw [List.length_set, len0]; omega)
  have s1 : σ1[1]? = some (some (v0 ls p)) := by
    show ((List.set _ 1 _).set 2 _)[1]? = _
    rw [List.getElem?_set_ne (by decide)]
    exact List.getElem?_set_self (by rw [len0]; omega)
  let H1 := upd H p (o0 ls)
  have R1 : Rel K nolin g j [] S [] H1 := R.alloc hp
  have hc1 : H1 c' = some (CodeO c' q) := by
    show upd H p _ c' = _
    rw [upd_ne (ne_of_none hco hp)]; exact hco
  -- the rest
  have fin : ∀ (tv ev : D) (v1 v2 : V) (τ : L2.St) (j2 : Nat → Addr) (S2 : Sto) (H2 : Hp), Rel K nolin g j2 [] S2 [] H2 → τ.length = n + 3 → τ[1]? = some (some v1) → τ[2]? = some (some v2) → RD (wo K nolin B j2 [] S2 [] H2) tv v1 → RD (wo K nolin B j2 [] S2 [] H2) ev v2 → OutN K g Q E (cf fH [tv, ev] S2) → D1.nx τ H2 := fun tv ev v1 v2 τ j2 S2 H2 R2 hl e1 e2 r1 r2 o => by
    have lo : ∀ (i : Nat) (d : D), (σH n tv ev)[i]? = some (some d) → i = 1 ∧ d = tv ∨ i = 2 ∧ d = ev := fun i d e => by
      match i, e with
      | 0, e => cases e
      | 1, e => cases e; exact .inl ⟨rfl, rfl⟩
      | 2, e => cases e; exact .inr ⟨rfl, rfl⟩
      | i + 3, e =>
        have e : (List.replicate n (none : Option D))[i]? = some (some d) := e
        rw [List.getElem?_replicate] at e
        split at e <;> cases e
    have R3 : Rel K lin g j2 (σH n tv ev) S2 τ H2 := R2.load (by rw [hl]; simp [σH]) (fun i d e => by
      rcases lo i d e with ⟨rfl, _⟩ | ⟨rfl, _⟩
      · exact l1
      · exact l2) fun i d e => by
      rcases lo i d e with ⟨rfl, rfl⟩ | ⟨rfl, rfl⟩
      · exact ⟨v1, e1, r1⟩
      · exact ⟨v2, e2, r2⟩
    rw [hcf] at o
    exact ⟨g, j2, σH n tv ev, S2, R3, out_fin (Z := Z) rfl o⟩
  -- an exception
  have exc : ∀ c fs S2, r S = .exc (.exc c fs) S2 → ∀ j' cls dd H', Rel K nolin g j' [] S2 [] H' → Stp j S.length H1 j' S2.length H' → RX (wo K nolin B j' [] S2 [] H') (.exc c fs) cls dd → wCatch K.K (.ref C1) (.ref C2) i 2 (wishE E) D1 cls dd σ1 H' := fun c fs S2 er j' cls dd H' R' st rx => by
    rw [er] at out
    have out : OutN K g Q E (if ct c = true then cf fH [if ls = true then .lst [] else .non, .exc c fs] S2 else .stuck) := out
    split at out
    · rename_i hc
      have ecls : cls = .ref (K.cl c) := by
        obtain ⟨c2, fs2, e, z, _⟩ := rx
        cases e
        exact z
      refine ⟨true, by rw [ecls]; exact hct c hc, fun _ a ha => ?_, fun z => nomatch z⟩
      have nF : ¬ FF nolin B j' S2.length [] [] a := fun z => by
        obtain ⟨o, eo⟩ := R'.trk a z
        rw [ha] at eo; cases eo
      have R2 : Rel K nolin g j' [] S2 [] (upd H' a (ExV cls dd a)) := R'.alloc ha
      have rd : RD (wo K nolin B j' [] S2 [] (upd H' a (ExV cls dd a))) (.exc c fs) (.ref a) := rd_exc (RX.mono (le_alloc ha) rx) upd_same nF
      refine fin (if ls = true then .lst [] else .non) (.exc c fs) (v0 ls p) (.ref a) _ j' S2 _ R2 (by rw [List.length_set, List.length_set, len1]) ?_ ?_ ?_ rd out
      · rw [List.getElem?_set_ne (by omega), List.getElem?_set_ne (by decide)]; exact s1
      · rw [List.getElem?_set_ne (by omega)]; exact List.getElem?_set_self (by rw [len1]; omega)
      · have nFp : ¬ FF nolin B j S.length [] [] p := fun z => by
          obtain ⟨o, eo⟩ := R.trk p z
          rw [hp] at eo; cases eo
        cases ls with
        | false => exact .non
        | true =>
          have r0 : RD (wo K nolin B j [] S [] H1) (.lst []) (.ref p) := .lst (vs := []) upd_same nFp (Nat.zero_le _) .nil
          exact (r0.mono st.wle).mono (le_alloc ha)
    · exact out.elim
  show tHT ls (ta (wCatch K.K (.ref C1) (.ref C2) i 2 (wishE E) D1)) D1 σ1 H1
  have key : ∀ Q1 : VK, (∀ d S2, r S = .ok d S2 → ∀ j' v H', Rel K nolin g j' [] S2 [] H' → RD (wo K nolin B j' [] S2 [] H') d v → Q1 v H') → ta (wCatch K.K (.ref C1) (.ref C2) i 2 (wishE E) D1) σ1 H1 Q1 := fun Q1 h1 => by
    refine ⟨s0, hc1, sem _ _ j S H1 R1 ?_⟩
    match e : r S with
    | .ok d S2 => exact fun j' v H' R' _ rd => h1 d S2 e j' v H' R' rd
    | .exc (.exc c fs) S2 => exact fun j' cls dd H' R' st rx => exc c fs S2 e j' cls dd H' R' st rx
    | .exc .non S2 => rw [e] at out; exact out.elim
    | .exc (.bl _) S2 => rw [e] at out; exact out.elim
    | .exc (.int _) S2 => rw [e] at out; exact out.elim
    | .exc (.str _) S2 => rw [e] at out; exact out.elim
    | .exc (.tup _) S2 => rw [e] at out; exact out.elim
    | .exc (.lst _) S2 => rw [e] at out; exact out.elim
    | .exc (.dic _) S2 => rw [e] at out; exact out.elim
    | .exc (.ref _) S2 => rw [e] at out; exact out.elim
    | .exc (.obj _ _) S2 => rw [e] at out; exact out.elim
    | .exc (.clo _ _) S2 => rw [e] at out; exact out.elim
    | .exc (.scr _) S2 => rw [e] at out; exact out.elim
    | .stuck => rw [e] at out; exact out.elim
  cases hls : ls with
  | true =>
    subst hls
    refine key _ fun d S2 e j' v H' R' rd => ⟨by show 1 ≤ sizeLine; rw [sizeLine_eq]; omega, fun p2 hp2 => ?_⟩
    rw [e] at out
    have nF : ¬ FF nolin B j' S2.length [] [] p2 := fun z => by
      obtain ⟨o, eo⟩ := R'.trk p2 z
      rw [hp2] at eo; cases eo
    exact fin (.lst [d]) .non (.ref p2) .non _ j' S2 _ (R'.alloc hp2) (by rw [List.length_set, len1]) (List.getElem?_set_self (by rw [len1]; omega)) (by rw [List.getElem?_set_ne (by decide)]; exact s2) (.lst (vs := [v]) upd_same nF (by show 1 ≤ sizeLine; rw [sizeLine_eq]; omega) (.cons (rd.mono (le_alloc hp2)) .nil)) .non out
  | false =>
    subst hls
    refine key _ fun d S2 e j' v H' R' rd => ?_
    rw [e] at out
    exact fin d .non v .non _ j' S2 _ R' (by rw [List.length_set, len1]) (List.getElem?_set_self (by rw [len1]; omega)) (by rw [List.getElem?_set_ne (by decide)]; exact s2) rd .non out
end Qi
namespace Qi
open PySem PySem.Spec PyProof.Rows L2 LamX
section
variable {K : Kx} {lin : Nat → Bool} {g : Gd} {j j' j2 j0 : Nat → Addr} {σ : Sl} {S S' S2 : Sto} {σV : L2.St} {H H' H2 H0 : Hp} {n0 : Nat}
theorem Rel.back (R2 : Rel K lin g j2 σ S2 σV H2) (C : Rel K nolin ⟨keepB lin g.B σ σV, H0, n0, j0⟩ j' [] S' [] H') (st : Stp j' S'.length H' j2 S2.length H2) : Rel K nolin ⟨keepB lin g.B σ σV, H0, n0, j0⟩ j2 [] S2 [] H2 where
  len := rfl
  inj := R2.inj
  lc := fun i a n h => (noLin h).elim
  ll := fun i i' a h => (noLin h).elim
  oc := fun n hn z => by
    rcases z with z | ⟨i, z⟩
    · exact R2.oc n hn z
    · exact R2.lc i _ n z hn rfl
  ol := fun i a h => (noLin h).elim
  trk := fun a h => R2.trk a (ff_keepB.mp h)
  slots := fun i d h => by simp at h
  cells := fun n c e => (R2.cells n c e).mono le_in fun o _ h => h
  frame := fun a o t h1 h2 => st.keep a o t (C.frame a o t h1 fun n hn e => h2 n hn (by rw [st.ag n (Nat.lt_of_lt_of_le hn C.n0)]; exact e)) fun n hn e => by
    by_cases hl : n < n0
    · exact h2 n hl (by rw [st.ag n hn]; exact e)
    · have := C.newc n (by show n0 ≤ n; omega) hn
      have h1 : H0 a = some o := h1
      have this : H0 (j' n) = none := this
      rw [e, h1] at this; cases this
  newc := fun n h1 h2 => by
    by_cases hl : n < S'.length
    · rw [st.ag n hl]; exact C.newc n h1 hl
    · have z := st.new n (by omega) h2
      show H0 (j2 n) = none
      cases q : H0 (j2 n) with
      | none => rfl
      | some o =>
        obtain ⟨o', e⟩ := C.dom _ o q
        rw [e] at z; cases z
  newl := fun i a h => (noLin h).elim
  n0 := Nat.le_trans C.n0 st.le
  ag := fun n hn => (st.ag n (Nat.lt_of_lt_of_le hn C.n0)).trans (C.ag n hn)
  dom := fun a o h => by
    obtain ⟨o', e⟩ := C.dom a o h
    exact st.dom a o' e
  tabs := R2.tabs
theorem keepB_set {B : Addr → Prop} {i : Nat} {x : Option D} {y : Option V} {d : D} {v : V} (hl : lin i = false) : keepB lin B (σ.set i (some d)) (σV.set i (some v)) = keepB lin B σ σV := by
  funext a
  apply propext
  unfold keepB
  constructor
  · rintro (h | ⟨k, h⟩)
    · exact .inl h
    · exact .inr ⟨k, (linA_set hl).mp h⟩
  · rintro (h | ⟨k, h⟩)
    · exact .inl h
    · exact .inr ⟨k, (linA_set hl).mpr h⟩
theorem keepB_setO {B : Addr → Prop} {o : Option Str} {i : Nat} {d : D} {v : V} (hl : lin i = false) : keepB lin B (setO o i d σ) (setO o i v σV) = keepB lin B σ σV := by
  cases o with
  | none => rfl
  | some x => exact keepB_set (x := none) (y := none) hl
theorem Rel.setO {o : Option Str} {i : Nat} {d : D} {v : V} (R : Rel K lin g j σ S σV H) (hl : lin i = false) (rd : RD (wo K lin g.B j σ S σV H) d v) : Rel K lin g j (Qi.setO o i d σ) S (Qi.setO o i v σV) H := by
  cases o with
  | none => exact R
  | some x => exact R.set hl rd
end
/-- the lambda's parameters: none, or one with a whole number as its default -/
inductive LamPs : Arguments → Option Str → Int → Prop
  | none : LamPs ⟨[], [], none, [], [], none, []⟩ none 0
  | one {x : Str} {p : Pos} {n : Int} {kk : Nat} {p1 : Pos} : LamPs ⟨[], [⟨x, none, p⟩], none, [], [], none, [.Constant (.int n) kk p1]⟩ (some x) n
section
variable {X : Cx} {pins : List (Addr × Obj)} {σ : L2.St} {H : Hp} {s : Shared}
theorem lam_make {T : List (Addr × Str)} {c P : Addr} {params : Arguments} {body : Expr} {scope : Scope} {pos : Pos} {o : Option Str} {n : Int} {E Q : Value → Shared → Prop} (hps : LamPs params o n) (I : Inv X pins σ H s) (B : TabB X.base X.mg c P) (hcode : X.env.code = .ref c)
    (hm : (P, lamQ X) ∈ T) (hu : ∀ p ∈ T, p.1 = P → p.2 = lamQ X) (hT : Tabs T H) (hfr : ∀ y ∈ scope.names, y.2 = .free → ∃ c, X.env.cells.lookup y.1 = some c)
    (h : ∀ (f c' : Addr) (dV doc pm ctv u : Value) (H1 : Hp) (s1 : Shared), Inv X pins σ H1 s1 → Grow H H1 → Tabs T H1 → RelV (.int n) u → BindL s1 H1 X.stack (lamF X params body scope dV doc pm c' ctv) (bsO o u) → s1.heap.get? f = some (lamD X params body scope dV doc pm c' ctv) → H1 f = none → f ∉ frs X.stack → H1 c' = some (CodeO c' (lamQ X)) → Q (.ref f) s1) :
    wpAny (model X.prog X.w) X.A (eval (.Lambda params body scope pos) X.env) Q E s := by
  cases hps with
  | none =>
    refine lam0_make I B hcode hm hu hT hfr rfl (fun q cl doc pm cv ctv => ?_) fun f c' dV doc pm ctv H1 s1 I1 gr T1 bind hf hn hfk hc => h f c' dV doc pm ctv (.int 0 0) H1 s1 I1 gr T1 ⟨0, rfl⟩ bind hf hn hfk hc
    unfold bindArgs
    simp [PySem.W.kdv_fn, show seqItems? Value.none = pure none from rfl]
  | one =>
    refine lam1_make I B hcode hm hu hT hfr rfl rfl (fun q cl dV doc pm cv ctv u => ?_) fun f c' dV doc pm ctv u H1 s1 I1 gr T1 rv bind hf hn hfk hc => h f c' dV doc pm ctv u H1 s1 I1 gr T1 rv bind hf hn hfk hc
    unfold bindArgs
    refine ⟨_, rfl, ?_⟩
    simp [PySem.W.kdv_fn]
end
/-- x(lambda: body), x a def that catches -/
theorem de_heard {X : Cx} {Z : Env1} {x a : Str} {ga : Addr} {k : Nat} {pg : Arguments} {bg : List Stmt} {sg : Scope} {dV kV doc pm cdv ctt oc : Value} {an od : Option Addr} {osl : Array (Option Value)} {Ng : List Str} {params : Arguments} {body : Expr} {scope : Scope} {p lpos pos : Pos} {o : Option Str} {i : Nat} {n : Int} {cf : Cf} {fH : Nat} {ls : Bool} {ct : Nat → Bool} {m : Ex}
    (hg : Gl X x) (hm : X.mg x = some (.ref ga)) (hk : PySem.W.keepIn X.K (.ref ga) = true) (lk : X.K.lookup ga = some ⟨oc, od, .func (PySem.W.fnOf x x pg bg sg dV kV doc pm an cdv ctt), osl⟩) (hcg : PySem.W.codeIn X.K cdv x = true) (hb : L2.Binds X.K (PySem.W.fnOf x x pg bg sg dV kV doc pm an cdv ctt) [a] [])
    (Sg : FnScope Ng [a] sg) (hNg : Ng[0]? = some a) (hva : Vis sg a) (hdb : (x == ("__debug__" : Str)) = false) (hda : (a == ("__debug__" : Str)) = false) (hca : (a == ("__classdict__" : Str)) = false)
    (hd : HdOk X.prog X.w Z.K X.mg X.base (k + 1) Ng x sg ga cdv a bg cf fH ls ct) (F : LamF X Z) (hr : Room (k + 2) X.A) (L : LamG X.env.scope scope o) (hps : LamPs params o n) (nd : X.N.Nodup) (hi : ∀ y, o = some y → X.N[i]? = some y) (hl : Z.lin i = false) (hK : Z.K.K = X.K) (tk : Takes X Z.W)
    (hbody : ∀ (A : Around) (outer : List Env) (s : Shared) (H : Hp) (E : XK) (f c' : Addr), Room k (A.deeper (lamEnv X scope s.heap.objs.size f c')) → DE (lamCx X A outer s H E scope f c') ⟨Z.K, Z.lin, wishE E⟩ body m) :
    DE X Z (.Call (.Name x p) [.Lambda params body scope lpos] [] pos) (xHeard cf fH ls ct (fun σ S => m (setO o i (.int n) σ) S)) := by
  refine ⟨fun pins s σV H Q I h => ?_⟩
  obtain ⟨g, j, σ, S, R, h⟩ := h
  obtain ⟨c, P, f1, f2, f3, f4⟩ := F.ex
  refine wpAny_Call_Name_kw (ld_glob I hg hm ?_ hdb)
  refine PySem.W.callWith_K (h₀ := X.base) I.ok.mod.kin hk ?_ (by rfl) (by rfl)
  refine Calls.spliced_cons (lam_make hps I f2 f1 f3 f4 R.tabs (L.has I.ok) fun f c' dv dc pm' cv u H1 s1 I1 gr T1 rv bind hf hfn hfr hco => ?_)
  refine Calls.spliced_nil ⟨I1.kIn, ?_⟩
  have R1 : RelZ Z g j σ S σV H1 := R.grow gr T1
  have h1 : OutR Z g j σ S σV H1 RD Q (xHeard cf fH ls ct (fun σ S => m (setO o i (.int n) σ) S) σ S) := OutR.step gr.stp h
  have rc : codeAny (model X.prog X.w) X.A (.call (.ref ga) ⟨[.ref f], []⟩) (CR (L2.CX X.prog X.w) X.stack X.prog X.w H1 s1 Q (WE Z.W σV)) s1 := by
    refine run_ofS (N := Ng) (ps := [a]) (us := [.ref f]) (vs := [.ref f]) lk hcg Sg hr I1.env0 (hb s1 [.ref f] I1.kIn rfl) (.cons rfl .nil) rfl fun hr' => ?_
    rw [← hK]
    refine hd X.A X.stack s1 H1 f c' (lamQ X) Q (WE Z.W σV) (fun E' H' Q' => lE ⟨Z.K, Z.lin, wishE E'⟩ m (setO o i (.int n) σV) H' Q') (keepB Z.lin g.B σ σV) j S (fun S' => m (setO o i (.int n) σ) S') hr' (fun W pn xe p1 p2 t => ?_) hco R1.enter (fun E' Q' j' S' H' C out => ?_) ?_
    · rw [hK] at t ⊢
      exact pe_actG (k := k) I1 L hf hfn hfr bind nd hi rv t hr' (fun A outer s H E hr2 => hbody A outer s H E f c' hr2) hNg hva hda hca
    · have R2 : RelZ ⟨Z.K, Z.lin, wishE E'⟩ g j' (setO o i (.int n) σ) S' (setO o i (.int n) σV) H' := Rel.setO (R1.follow C) hl (.int n)
      refine ⟨g, j', setO o i (.int n) σ, S', R2, ?_⟩
      have e1 := keepB_setO (B := g.B) (σ := σ) (σV := σV) (o := o) (d := .int n) (v := .int n) hl
      match q : m (setO o i (.int n) σ) S' with
      | .ok d S3 =>
        simp only [q] at out
        refine fun j3 v H3 R3 st rd => out j3 v H3 ?_ st ?_
        · have C' := C
          rw [← e1] at C' ⊢
          exact Rel.back R3 C' st
        · rw [← e1]
          exact rd.mono le_in
      | .exc e S3 =>
        simp only [q] at out
        refine fun j3 cls dd H3 R3 st rx => out j3 cls dd H3 ?_ st ?_
        · have C' := C
          rw [← e1] at C' ⊢
          exact Rel.back R3 C' st
        · rw [← e1]
          exact rx.mono le_in
      | .stuck => simp only [q] at out; exact out.elim
    · have h1 : OutR Z g j σ S σV H1 RD Q (hres cf fH ls ct (m (setO o i (.int n) σ) S)) := h1
      generalize hres cf fH ls ct (m (setO o i (.int n) σ) S) = r at h1 ⊢
      match r, h1 with
      | .ok d S2, h1 => exact fun j2 v H2 C rd => h1 j2 v H2 (R1.follow C) C.stp (rd.mono le_out)
      | .exc x S2, h1 => exact fun j2 cls dd H2 C rx => h1 j2 cls dd H2 (R1.follow C) C.stp (rx.mono le_out)
      | .stuck, h1 => exact h1
  refine wpAny_call (codeAny_mono rc fun r s' hq => ?_)
  cases r with
  | error e => exact (passAt tk) σV pins H1 s1 e s' I1 hq
  | ok fl =>
    cases fl with
    | ret w3 => exact I1.after hq
    | _ => exact False.elim hq
end Qi
namespace Qi
open PySem PySem.Spec PyProof.Rows L2 LamX
structure ExE where
  name : Str
  cn : Nat
  ov : Bool
structure ESp where
  E : ExE
  st : Stmt
def exBase (ov : Bool) : String := if ov = true then "OverflowError" else "ValueError"
def exNew (ov : Bool) : String := if ov = true then "OverflowError.__new__" else "ValueError.__new__"
def exIni (ov : Bool) : String := if ov = true then "OverflowError.__init__" else "ValueError.__init__"
def exBm (ov : Bool) : List Value := if ov = true then [.type "OverflowError", .type "ArithmeticError", .type "Exception", .type "BaseException", .type "object"] else [.type "ValueError", .type "Exception", .type "BaseException", .type "object"]
theorem exBa (ov : Bool) : BaF (exBase ov) (exNew ov) (exIni ov) (exBm ov) := by
  cases ov with
  | true => exact ⟨PySem.F.excBase_OverflowError, PySem.W.kxs_OverflowError, PySem.F.store_OverflowError⟩
  | false => exact ⟨PySem.F.excBase_ValueError, PySem.W.kxs_ValueError, PySem.F.store_ValueError⟩
structure ExOk (P : Program) (K : PySem.W.Frag) (mg : Str → Option Value) (C : Addr) (E : ExE) : Prop where
  at_ : mg E.name = some (.ref C)
  nd : (E.name == ("__debug__" : Str)) = false
  mk1 : ∀ f, excField E.cn = some f → ∃ fI fd p0 p1 p2 p3 p4 p5 p6 p7 p8 p9 txt kk, ExK K P mg C fI fd (body1 p0 p1 p2 p3 p4 p5 p6 p7 p8 p9 txt f f kk) (exBase E.ov) (exNew E.ov) (exIni E.ov) (exBm E.ov) ∧ Ini1 K C fd f f p2 p4
  mk0 : excField E.cn = none → ∃ fI fd p0 p1 p2 p3 p4 p5 txt kk, ExK K P mg C fI fd (body0 p0 p1 p2 p3 p4 p5 txt kk) (exBase E.ov) (exNew E.ov) (exIni E.ov) (exBm E.ov) ∧ Ini0 fd p2 p4
  r1 : PySem.W.subIn K (.ref C) (.type "BaseException") = some true
  r2 : PySem.W.typeIn K (.ref C) = some (.type "type")
  ei : ExcI K C
  fl : ∀ f, excField E.cn = some f → PySem.W.findIn K (.ref C) f = some none
def supP : Stmt → Bool
  | .Expr (.Call (.Attribute (.Call (.Name x _) [] [] _) y p2) [.Constant (.str _) _ _] [] p4) _ => decide (x = "super") && decide (y = "__init__") && (p2.endLine == p4.line)
  | _ => false
theorem supP_of {s : Stmt} (h : supP s = true) : ∃ p0 p1 p2 p3 p4 p5 txt kk, s = supS p0 p1 p2 p3 p4 p5 txt kk ∧ (p2.endLine == p4.line) = true := by
  unfold supP at h
  split at h
  · simp only [Bool.and_eq_true, decide_eq_true_eq] at h
    obtain ⟨⟨rfl, rfl⟩, h⟩ := h
    exact ⟨_, _, _, _, _, _, _, _, rfl, h⟩
  · cases h
def argN : Arguments → Option (List Str)
  | ⟨[], as, none, [], [], none, []⟩ => some (as.map (·.arg))
  | _ => none
theorem argN2 {a : Arguments} {x y : Str} (h : argN a = some [x, y]) : ∃ n1 p1 n2 p2, a = ⟨[], [⟨x, n1, p1⟩, ⟨y, n2, p2⟩], none, [], [], none, []⟩ := by
  unfold argN at h
  split at h
  · rename_i as
    match as, h with
    | [⟨x', n1, p1⟩, ⟨y', n2, p2⟩], h =>
      cases h
      exact ⟨_, _, _, _, rfl⟩
    | [], h => cases h
    | [_], h => cases h
    | _ :: _ :: _ :: _, h => simp at h
  · cases h
theorem argN1 {a : Arguments} {x : Str} (h : argN a = some [x]) : ∃ n1 p1, a = ⟨[], [⟨x, n1, p1⟩], none, [], [], none, []⟩ := by
  unfold argN at h
  split at h
  · rename_i as
    match as, h with
    | [⟨x', n1, p1⟩], h =>
      cases h
      exact ⟨_, _, rfl⟩
    | [], h => cases h
    | _ :: _ :: _, h => simp at h
  · cases h
theorem bindE2 {fd : FuncData} {x y : Str} (h : argN fd.params = some [x, y]) (hne : (x == y) = false) (hd : fd.defaults = .none) (a u : Value) : bindArgs fd ⟨[a, u], []⟩ = pure [(x, a), (y, u)] := by
  obtain ⟨n1, p1, n2, p2, e⟩ := argN2 h
  have h2 : (y == x) = false := by
    cases q : y == x with
    | false => rfl
    | true =>
      have z := eq_of_beq q
      subst z
      simp at hne
  unfold bindArgs
  rw [e, hd]
  simp [show seqItems? Value.none = pure none from rfl, List.lookup, h2]
theorem bindEK {fd : FuncData} {x y : Str} (h : argN fd.params = some [x, y]) (hne : (x == y) = false) (hd : fd.defaults = .none) (a u : Value) : bindArgs fd ⟨[a], [(y, u)]⟩ = pure [(x, a), (y, u)] := by
  obtain ⟨n1, p1, n2, p2, e⟩ := argN2 h
  have h2 : (y == x) = false := by
    cases q : y == x with
    | false => rfl
    | true =>
      have z := eq_of_beq q
      subst z
      simp at hne
  unfold bindArgs
  rw [e, hd]
  simp [show seqItems? Value.none = pure none from rfl, List.lookup, h2, hne]
theorem bindE1 {fd : FuncData} {x : Str} (h : argN fd.params = some [x]) (hd : fd.defaults = .none) (a : Value) : bindArgs fd ⟨[a], []⟩ = pure [(x, a)] := by
  obtain ⟨n1, p1, e⟩ := argN1 h
  unfold bindArgs
  rw [e, hd]
  simp [show seqItems? Value.none = pure none from rfl]
/-- the text fits: the field's name -/
def iniOk (f : Option Str) (args : Arguments) (scope : Scope) : List Stmt → Bool
  | [s1] => supP s1 && decide (f = none) && decide (argN args = some [(Str.ofString "self" : Str)])
  | [s1, .Assign [.Attribute (.Name z _) g _] (.Name par _) _] => supP s1 && decide (z = "self") && decide (f = some g) && decide (argN args = some [(Str.ofString "self" : Str), par]) && decide (scope.names.lookup par = some .local) && !((Str.ofString "self" : Str) == par) && !(par == ("__debug__" : Str)) && decide (par = g)
  | _ => false
def scE (sc : Scope) : Bool := decide (sc.kind = .function) && !sc.isCoroutine && !sc.isGenerator && (sc.names.all fun x => !decide (x.2 = .cell)) && decide (sc.names.lookup ("super" : Str) = some .globalImplicit) && decide (sc.names.lookup ("__class__" : Str) = some .free) && decide (sc.names.lookup ("self" : Str) = some .local)
def ESp.okS (e : ESp) : Bool := iniOk (excField e.E.cn) (defArgs e.st) (defScope e.st) (defBody e.st) && scE (defScope e.st) && !(e.E.name == ("__debug__" : Str))
def isFnT : Value → Bool
  | .type t => decide (t = "function")
  | _ => false
def noneV : Value → Bool
  | .none => true
  | _ => false
def ESp.cls (K : PySem.W.Frag) (e : ESp) : Addr := He.ga K e.E.name
def ESp.adr (K : PySem.W.Frag) (e : ESp) : Addr := He.ma K (e.cls K) "__init__"
def fnAtX (K : PySem.W.Frag) (a : Addr) : He.FnW := match K.lookup a with
  | some ⟨_, _, .func fd, _⟩ => some (fd.name, fd.qualname, fd.params, fd.body, fd.scope, fd.globals, [], fd.builtins)
  | _ => none
def ESp.val (e : ESp) : He.FnW := some ("__init__", e.E.name ++ ".__init__", defArgs e.st, .stmts (defBody e.st), defScope e.st, mainGlobals, [], builtinsNs)
def closB (K : PySem.W.Frag) (C : Addr) : List (Str × Addr) → Bool
  | [(x, cc)] => decide (x = "__class__") && (match K.lookup cc with
    | some ⟨_, _, .cell (some (.ref c)), _⟩ => decide (c = C)
    | _ => false)
  | _ => false
def codB (K : PySem.W.Frag) (file : Str) (q : Str) : Value → Bool
  | .ref cda => PySem.W.codeIn K (.ref cda) q && (match K.lookup cda with
    | some ⟨_, _, .fields vs, _⟩ => (match vs[2]? with
      | some (Value.str f _) => file == f
      | _ => false)
    | _ => false)
  | _ => false
def eqV (a b : Option (Option Value)) : Bool := decide (a = b)
def exiB (K : PySem.W.Frag) (C : Addr) : Bool := (PySem.W.clsIn K C).isSome && eqV (PySem.W.findIn K (.ref C) "__getattribute__") (some (some (.builtin "BaseException.__getattribute__"))) && eqV (PySem.W.findIn K (.ref C) "__getattr__") (some none) && decide (PySem.W.subIn K (.ref C) (.type "BaseException") = some true) && eqV (PySem.W.findIn K (.ref C) "__class__") (some (some (.builtin "object.__class__"))) &&
  eqV (PySem.W.specialIn K (.builtin "object.__class__") "__get__") (some (some (.builtin "getset_descriptor.__get__"))) && decide (PySem.W.takesIn K (.builtin "object.__class__") = some true) && decide (PySem.W.mroIn K C (.type "object") = some true) && PySem.W.hasDictIn K C
theorem exiB_ok {K : PySem.W.Frag} {C : Addr} (h : exiB K C = true) : ExcI K C := by
  unfold exiB eqV at h
  simp only [Bool.and_eq_true, decide_eq_true_eq] at h
  obtain ⟨⟨⟨⟨⟨⟨⟨⟨h1, h2⟩, h3⟩, h4⟩, h5⟩, h6⟩, h7⟩, h8⟩, h9⟩ := h
  exact ⟨h1, h2, h3, h4, h5, h6, h7, h8, h9⟩
def ESp.factB (K : PySem.W.Frag) (file : Str) (e : ESp) : Bool :=
  eqV (PySem.W.nsIn K mainGlobals e.E.name) (some (some (.ref (e.cls K)))) && PySem.W.keepIn K (.ref (e.cls K)) && PySem.W.excInitIn K (e.cls K) (exBm e.E.ov) (exNew e.E.ov) && eqV (PySem.W.findIn K (.ref (e.cls K)) "__init__") (some (some (.ref (e.adr K)))) &&
  (match K.lookup (e.adr K) with
    | some ⟨oc, _, .func fd, _⟩ => isFnT oc && noneV fd.defaults && closB K (e.cls K) fd.closure && codB K file fd.qualname fd.code
    | _ => false) &&
  decide (PySem.W.mroIn K (e.cls K) (.ref (e.cls K)) = some true) && eqV (PySem.W.ks_superIn K (e.cls K) (e.cls K) "__init__") (some (some (.builtin (exIni e.E.ov)))) && decide (PySem.W.subIn K (.ref (e.cls K)) (.type (exBase e.E.ov)) = some true) && eqV (PySem.W.nsIn K cStatics "thirdparty.any") (some none) && eqV (PySem.W.findIn K (.ref (e.cls K)) "__setattr__") (some (some (.builtin "object.__setattr__"))) &&
  PySem.W.excOver K (e.cls K) (exBm e.E.ov) && (PySem.W.clsIn K (e.cls K)).any (·.hasDict) && decide (PySem.W.typeIn K (.ref (e.cls K)) = some (.type "type")) && exiB K (e.cls K) &&
  (match excField e.E.cn with
    | some f => eqV (PySem.W.findIn K (.ref (e.cls K)) f) (some none) && eqV (PySem.W.takerIn K (e.cls K) f) (some none)
    | none => true)
theorem ex_of {K : PySem.W.Frag} {file : Str} {e : ESp} {P : Program} {mg : Str → Option Value} (hs : e.okS = true) (hf : e.factB K file = true) (ho : fnAtX K (e.adr K) = e.val) (top : (P.main.scope.names.lookup ("super" : Str)).isSome = false) (hfile : P.main.file = file) (sm : mg "super" = none) (at_ : mg e.E.name = some (.ref (e.cls K))) : ExOk P K mg (e.cls K) e.E := by
  unfold ESp.okS at hs
  unfold ESp.factB eqV at hf
  simp only [Bool.and_eq_true, decide_eq_true_eq, Bool.not_eq_true'] at hs hf
  obtain ⟨⟨hi, hsc⟩, hnd⟩ := hs
  obtain ⟨⟨⟨⟨⟨⟨⟨⟨⟨⟨⟨⟨⟨⟨f1, f2⟩, f3⟩, f4⟩, f5⟩, f6⟩, f7⟩, f8⟩, f9⟩, f10⟩, f11⟩, f12⟩, f13⟩, f14⟩, f15⟩ := hf
  have ei := exiB_ok f14
  unfold fnAtX at ho
  split at f5
  · rename_i oc od fd osl lk
    rw [lk] at ho
    have ho : (some (fd.name, fd.qualname, fd.params, fd.body, fd.scope, fd.globals, [], fd.builtins) : He.FnW) = some ((Str.ofString "__init__" : Str), e.E.name ++ ".__init__", defArgs e.st, FuncBody.stmts (defBody e.st), defScope e.st, mainGlobals, [], builtinsNs) := ho
    simp only [Option.some.injEq, Prod.mk.injEq] at ho
    obtain ⟨o1, o2, o3, o4, o5, o6, _, o7⟩ := ho
    simp only [Bool.and_eq_true] at f5
    obtain ⟨⟨⟨g1, g2⟩, g3⟩, g4⟩ := f5
    have eoc : oc = .type "function" := by
      unfold isFnT at g1
      split at g1
      · rw [of_decide_eq_true g1]
      · cases g1
    have edf : fd.defaults = .none := by
      revert g2
      cases fd.defaults <;> intro g2 <;> first | rfl | cases g2
    have ecl : ∃ cc cl cld csl, fd.closure = [((Str.ofString "__class__" : Str), cc)] ∧ K.lookup cc = some ⟨cl, cld, .cell (some (.ref (e.cls K))), csl⟩ := by
      unfold closB at g3
      split at g3
      · rename_i x cc hcl
        simp only [Bool.and_eq_true, decide_eq_true_eq] at g3
        obtain ⟨rfl, g3⟩ := g3
        split at g3
        · rename_i cl cld c csl lc
          obtain rfl := of_decide_eq_true g3
          exact ⟨cc, cl, cld, csl, hcl, lc⟩
        · cases g3
      · cases g3
    have ecd : ∃ cda ccl cdd vs ccs fl tf, fd.code = .ref cda ∧ PySem.W.codeIn K (.ref cda) fd.qualname = true ∧ K.lookup cda = some ⟨ccl, cdd, .fields vs, ccs⟩ ∧ vs[2]? = some (.str fl tf) ∧ ((P.main.file : Str) == fl) = true := by
      unfold codB at g4
      split at g4
      · rename_i cda hcd
        simp only [Bool.and_eq_true] at g4
        obtain ⟨g5, g6⟩ := g4
        split at g6
        · rename_i ccl cdd vs ccs lc
          split at g6
          · rename_i fl tf hv
            exact ⟨cda, ccl, cdd, vs, ccs, fl, tf, hcd, g5, lc, hv, by rw [hfile]; exact g6⟩
          · cases g6
        · cases g6
      · cases g4
    unfold scE at hsc
    simp only [Bool.and_eq_true, decide_eq_true_eq, Bool.not_eq_true', List.all_eq_true, decide_eq_false_iff_not] at hsc
    obtain ⟨⟨⟨⟨⟨⟨k1, k2⟩, k3⟩, k4⟩, k5⟩, k6⟩, k7⟩ := hsc
    have hK : ∀ (body : List Stmt), fd.body = .stmts body → (∃ ar, (fd.params.posonlyargs ++ fd.params.args).head? = some ar ∧ ar.arg = "self") → ExK K P mg (e.cls K) (e.adr K) fd body (exBase e.E.ov) (exNew e.E.ov) (exIni e.E.ov) (exBm e.E.ov) := fun body hb har =>
      ⟨f3, f4, ⟨oc, od, osl, lk, eoc⟩, hb, har, ecl, ⟨o6, o7⟩, ecd, f6, top, sm, f7, f8, f9, by rw [o5]; exact ⟨k1, k2, k3, k4, k5, k6, k7⟩, f2, f10, f11, f12⟩
    refine ⟨at_, hnd, fun f ef => ?_, fun ef => ?_, ei.sb, f13, ei, fun f ef => ?_⟩
    · rw [ef] at hi f15
      simp only [Bool.and_eq_true, decide_eq_true_eq] at f15
      unfold iniOk at hi
      split at hi
      · simp at hi
      · rename_i s1 z zp g gp par pp ap hbd
        simp only [Bool.and_eq_true, decide_eq_true_eq, Bool.not_eq_true'] at hi
        obtain ⟨⟨⟨⟨⟨⟨⟨i1, rfl⟩, i3⟩, i4⟩, i5⟩, i6⟩, i7⟩, i8⟩ := hi
        cases i3
        subst i8
        obtain ⟨p0, p1, p2, p3, p4, p5, txt, kk, rfl, hl⟩ := supP_of i1
        rw [← o3] at i4
        obtain ⟨n1, q1, n2, q2, ea⟩ := argN2 i4
        exact ⟨_, fd, p0, p1, p2, p3, p4, p5, _, _, _, _, txt, kk, hK _ (by rw [o4, hbd]) ⟨⟨"self", n1, q1⟩, by rw [ea]; rfl, rfl⟩, ⟨hl, bindE2 i4 i6 edf, bindEK i4 i6 edf, by rw [o5]; exact i5, i6, i7, f15.2⟩⟩
      · cases hi
    · rw [ef] at hi
      unfold iniOk at hi
      split at hi
      · rename_i s1 hbd
        simp only [Bool.and_eq_true, decide_eq_true_eq] at hi
        obtain ⟨⟨i1, _⟩, i4⟩ := hi
        obtain ⟨p0, p1, p2, p3, p4, p5, txt, kk, rfl, hl⟩ := supP_of i1
        rw [← o3] at i4
        obtain ⟨n1, q1, ea⟩ := argN1 i4
        exact ⟨_, fd, p0, p1, p2, p3, p4, p5, txt, kk, hK _ (by rw [o4, hbd]) ⟨⟨"self", n1, q1⟩, by rw [ea]; rfl, rfl⟩, ⟨hl, bindE1 i4 edf⟩⟩
      · simp at hi
      · cases hi
    · rw [ef] at f15
      simp only [Bool.and_eq_true, decide_eq_true_eq] at f15
      exact f15.1
  · cases f5
end Qi
namespace PySem.PX
open PySem Sem PyProof.Rows
section
variable {prog : Program} {w : World} {A : Around} {E : Value → Shared → Prop} {R : Result → Shared → Prop} {h : Heap} {g : Array GenState} {d : Drawn} {t : Nat} {os : OsState}
variable {nm q : Str} {C N : Addr} {bs bm bmB : List Value} {hdct : Bool} {sn : List Str} {sub : List Value} {ab : Bool} {col : Option Bool} {dd : Option Addr} {k0 k1 k2 k3 k5 : Option Value} {B newId initId : String}
theorem check_new_kw {M : Model} (F : ExcBaseFacts B newId initId bmB) (hT : ∀ X : String, bm.contains (.type X) = bmB.contains (.type X)) {kw : List (Str × Value)} {Q : Unit → Shared → Prop}
    (hC : h.get? C = some (excClassObj nm q C N bs bm hdct sn sub ab col dd k0 k1 k2 k3 k5 newId)) (hq : Q () ⟨h, g, d, t, os⟩) : wpAny M A (checkBuiltinCall newId ⟨[.ref C], kw⟩) Q E ⟨h, g, d, t, os⟩ := by
  have c1 : (Value.ref C :: bm).contains (.type B) = true := by
    rw [List.contains_cons, hT, F.hasB, Bool.or_true]
  have c2 := F.noStar
  simp only [checkBuiltinCall, F.newKind, F.newSplit, F.newRow]
  repeat (first
    | refine wpAny_loadPart_at hC ?_
    | (refine wpAny_isSubtype_exc hC ?_; rw [c1])
    | refine wpAny_staticBase_exc hC ?_
    | refine wpAny_madeBy_exc hC ?_
    | simp only [bne_self_eq_false, Bool.false_eq_true, if_false]
    | wp_step)
  exact hq
theorem new_kw (F : ExcBaseFacts B newId initId bmB) (hT : ∀ X : String, bm.contains (.type X) = bmB.contains (.type X)) {kw : List (Str × Value)}
    (hC : h.get? C = some (excClassObj nm q C N bs bm hdct sn sub ab col dd k0 k1 k2 k3 k5 newId))
    (hq : R (.ok (.ret (.ref (h.objs.size + 1)))) ⟨(h.push (W.kdv_tup [])).push (excO C h.objs.size), g, d, t, os⟩) :
    codeAny (model prog w) A (.builtin newId ⟨[.ref C], kw⟩) R ⟨h, g, d, t, os⟩ := by
  have e0 := F.ends
  have e1 : (Value.ref C :: bm).contains (.type B) = true := by
    rw [List.contains_cons, hT, F.hasB, Bool.or_true]
  have e2 : (Value.ref C :: bm).contains (.type "AttributeError") = false := by
    rw [List.contains_cons, hT, F.noAttr]; rfl
  have e3 : (Value.ref C :: bm).contains (.type "NameError") = false := by
    rw [List.contains_cons, hT, F.noName]; rfl
  refine codeAny_builtinAt F.entry ?_
  unfold Builtin.«BaseException.__new__»
  refine wpAt_bind ?_
  show wpAt _ _ _ (stack >>= _) _ _ _
  refine wpAt_bind (wpAt_stack fun p below => wpAt_of_wpAny ?_)
  wp_walk
  refine wpAt_of_wpAny ?_
  rw [F.owner]
  repeat (first
    | with_reducible refine wpAny_madeHere_exc F.canon hC ?_
    | with_reducible refine wpAny_loadPart_at hC ?_
    | (with_reducible refine wpAny_isSubtype_exc hC ?_; first | rw [e1] | rw [e2] | rw [e3])
    | wp_step)
  show R _ _
  rw [Heap.size_push]
  exact hq
theorem type_call_kw (F : ExcBaseFacts B newId initId bmB) (hT : ∀ X : String, bm.contains (.type X) = bmB.contains (.type X)) {kw : List (Str × Value)} {fI : Addr} {Q : Fin → Shared → Prop}
    (hC : h.get? C = some (excClassObj nm q C N bs bm hdct sn sub ab col dd k0 k1 k2 k3 k5 newId))
    (hi : W.Looks (model prog w) h (typeLookup (.ref C) "__init__") (some (.ref fI))) (hb : ∀ self, W.Looks (model prog w) h (bindSpecial (.ref fI) self) (.ref fI, [self]))
    (hq : codeAny (model prog w) A (.call (.ref fI) ⟨[.ref (h.objs.size + 1)], kw⟩)
      (fun r s' => match r with
        | .ok (.ret v) => v = .none ∧ Q (.done (.ret (.ref (h.objs.size + 1)))) s'
        | .ok _ => False
        | .error e => E e s') ⟨(h.push (W.kdv_tup [])).push (excO C h.objs.size), g, d, t, os⟩) :
    wpAny (model prog w) A (Builtin.«type.__call__» ⟨[.ref C], kw⟩) Q E ⟨h, g, d, t, os⟩ := by
  repeat (first
    | with_reducible refine wpAny_loadPart_at hC ?_
    | with_reducible refine wpAny_madeBy_exc hC ?_
    | wp_step)
  refine codeAny_call_builtin_code (Code.quiet_builtin _ F.quiet) (check_new_kw F hT hC ?_)
  refine new_kw F hT hC ?_
  show wpAny _ _ _ _ _ _
  have up : ∀ b o, h.get? b = some o → ((h.push (W.kdv_tup [])).push (excO C h.objs.size)).get? b = some o := fun b o e => Heap.get?_push_of_some _ (Heap.get?_push_of_some _ e)
  have c1 := up _ _ hC
  have c2 : ((h.push (W.kdv_tup [])).push (excO C h.objs.size)).get? (h.objs.size + 1) = some (excO C h.objs.size) := by heap_get
  have c3 : (Value.ref C :: bm).contains (.ref C) = true := by simp
  have c4 := hi.keeps up
  have c5 := (hb (.ref (h.objs.size + 1))).keeps up
  unfold isInstance
  repeat (first
    | with_reducible refine wpAny_loadPart_at c2 ?_
    | (with_reducible refine wpAny_isSubtype_exc c1 ?_; rw [c3])
    | wp_step)
  show wpAny _ _ (typeLookup (.ref C) _) _ _ _
  refine c4.at (wpAny_holding (wpAny_bind (c5.at ?_)))
  refine wpAny_bind (wpAny_call (codeAny_mono hq fun r s' z => ?_))
  rcases r with e | (v | _ | _ | _) <;> try (first | exact z | exact z.elim)
  obtain ⟨rfl, y⟩ := z
  first | exact wpAny_pure (wpAny_pure y) | (wp_walk; exact y)
theorem call_kw (F : ExcBaseFacts B newId initId bmB) (hT : ∀ X : String, bm.contains (.type X) = bmB.contains (.type X)) {kw : List (Str × Value)} {fI : Addr}
    (hC : h.get? C = some (excClassObj nm q C N bs bm hdct sn sub ab col dd k0 k1 k2 k3 k5 newId))
    (hi : W.Looks (model prog w) h (typeLookup (.ref C) "__init__") (some (.ref fI))) (hb : ∀ self, W.Looks (model prog w) h (bindSpecial (.ref fI) self) (.ref fI, [self]))
    (hq : codeAny (model prog w) (A.under (.builtin "type.__call__" ⟨[.ref C], kw⟩)) (.call (.ref fI) ⟨[.ref (h.objs.size + 1)], kw⟩) (W.InitBack (h.objs.size + 1) R)
      ⟨(h.push (W.kdv_tup [])).push (excO C h.objs.size), g, d, t, os⟩) :
    codeAny (model prog w) A (.call (.ref C) ⟨[], kw⟩) R ⟨h, g, d, t, os⟩ := by
  have t1 := tc_lookup
  have t2 := tc_bind (.ref C)
  have ty : (⟨h, g, d, t, os⟩ : Shared).TypeIs (.ref C) "type" := ⟨_, hC, rfl⟩
  refine codeAny_of_tree ?_
  show wpAny _ _ (callAny (.ref C) _) _ _ _
  repeat (any_goals (first
    | assumption
    | with_reducible refine wpAny_loadPart_at hC ?_
    | wp_step))
  refine ⟨rfl, ?_⟩
  refine codeAny_call_builtin_at (Code.quiet_builtin _ (by decide +kernel)) entry_typeCall (wpAny_check_type_call_sub hC (type_call_kw F hT hC hi hb ?_))
  refine codeAny_mono hq fun r s' z => ?_
  rcases r with e | (v | _ | _ | _) <;> exact z
end
end PySem.PX
namespace Qi
open PySem PySem.Spec PyProof.Rows L2 LamX
section
variable {X : Cx} {C fI : Addr} {fd : FuncData} {body : List Stmt} {B newId initId : String} {bmB : List Value} {x f par txt : Str} {p pos kpos p0 p1 p2 p3 p4 p5 p6 p7 p8 p9 : Pos} {kk : Nat} {e : Expr} {te : TE}
theorem exc_callK {A : Around} {R : Result → Shared → Prop} {h : Heap} {g : Array GenState} {d : Drawn} {t : Nat} {os : OsState} {kw : List (Str × Value)} (F : BaF B newId initId bmB) (Y : ExK X.K X.prog X.mg C fI fd body B newId initId bmB) (KI : X.K.In h)
    (hq : codeAny (model X.prog X.w) (A.under (.builtin "type.__call__" ⟨[.ref C], kw⟩)) (.call (.ref fI) ⟨[.ref (h.objs.size + 1)], kw⟩) (PySem.W.InitBack (h.objs.size + 1) R) ⟨(h.push (PySem.W.kdv_tup [])).push (PySem.W.excObj C h.objs.size none .none), g, d, t, os⟩) :
    codeAny (model X.prog X.w) A (.call (.ref C) ⟨[], kw⟩) R ⟨h, g, d, t, os⟩ := by
  obtain ⟨nm, N', qn, bs, bm, hdct, sn, sub, ab, col, dd, q0, q1, q2, q3, q5, hC, hT⟩ := PySem.W.excInit_of KI Y.ini
  obtain ⟨oc, od, osl, lk, roc⟩ := Y.fn
  exact PySem.PX.call_kw F.fb hT hC (PySem.W.looks_findIn KI Y.at_) (fun self => PySem.W.exc_bind (KI _ _ lk) roc self) hq
theorem exc_runK {A : Around} {R : Result → Shared → Prop} {pins : List (Addr × Obj)} {σ : L2.St} {H : Hp} {s : Shared} {u : Value} (F : BaF B newId initId bmB) (Y : ExK X.K X.prog X.mg C fI fd (body1 p0 p1 p2 p3 p4 p5 p6 p7 p8 p9 txt f par kk) B newId initId bmB) (J : Ini1 X.K C fd f par p2 p4) (hr : Room 1 A) (I : Inv X pins σ H s)
    (h : ∀ (h' : Heap) (a dx t1 : Addr) (tk : Nat), (∀ b o, s.heap.get? b = some o → h'.get? b = some o) → s.heap.objs.size ≤ a → s.heap.objs.size ≤ dx → h'.get? a = some (PySem.W.excObj C t1 (some dx) .none) → h'.Ns1 dx (fun y => if y = f then some u else none) → R (.ok (.ret (.ref a))) { s with heap := h', toks := tk }) :
    codeAny (model X.prog X.w) A (.call (.ref C) ⟨[], [(par, u)]⟩) R s := by
  obtain ⟨mb, b1, b2⟩ := I.mod.blt
  have up : ∀ b o, s.heap.get? b = some o → ((s.heap.push (PySem.W.kdv_tup [])).push (PySem.W.excObj C s.heap.objs.size none .none)).get? b = some o := fun b o q => Heap.get?_push_of_some _ (Heap.get?_push_of_some _ q)
  have hsz : (s.heap.push (PySem.W.kdv_tup [])).objs.size = s.heap.objs.size + 1 := size_push' _ _
  have he : ((s.heap.push (PySem.W.kdv_tup [])).push (PySem.W.excObj C s.heap.objs.size none .none)).get? (s.heap.objs.size + 1) = some (PySem.W.excObj C s.heap.objs.size none .none) := by
    rw [← hsz]; exact Heap.get?_push_size _ rfl
  have hne : ∀ b o, s.heap.get? b = some o → b ≠ s.heap.objs.size + 1 := fun b o q => Nat.ne_of_lt (Nat.lt_succ_of_lt (Heap.lt_size q))
  have KI := I.kIn
  have G := I.mod.glob.keeps I.bk
  have Bb := b1.keeps I.bk
  have lim := I.nolimit
  obtain ⟨hh, g, d, t, os⟩ := s
  refine exc_callK F Y KI ?_
  refine exc_ini1 (mb := mb) (args := ⟨[.ref (hh.objs.size + 1)], [(par, u)]⟩) (s := ⟨(hh.push (PySem.W.kdv_tup [])).push (PySem.W.excObj C hh.objs.size none .none), g, d, t, os⟩) J.line F Y (KI.keeps up) (G.keeps up) (Bb.keeps up) (boot_super b2) (lim.keeps up) (hr.make C [] [(par, u)]).depth (.of_eq (J.bindK _ _)) J.loc J.ns J.nd J.tk he (fun a o q => hne a o (KI a o q)) fun h2 dx t1 tk k2 hdx e2 n2 => ⟨rfl, ?_⟩
  exact h h2 _ dx t1 tk (fun b o q => k2 b o (hne b o q) (up b o q)) (Nat.le_succ _) (Nat.le_trans (by show hh.objs.size ≤ ((hh.push _).push _).objs.size; rw [size_push', size_push']; omega) hdx) e2 n2
/-- known from now on -/
theorem inv_fresh {pins : List (Addr × Obj)} {σ : L2.St} {H H' : Hp} {s : Shared} {h' : Heap} {tk : Nat} {a t1 : Addr} {dd : Option Addr} (I : Inv X pins σ H s) (ha : s.heap.objs.size ≤ a) (J : Inv X pins σ H' { s with heap := h', toks := tk }) (hna : H' a = none) (he : h'.get? a = some (PySem.W.excObj C t1 dd .none)) : Inv X pins σ (upd H' a (ExV (.ref C) dd a)) { s with heap := h', toks := tk } := by
  have old : ∀ b o, s.heap.get? b = some o → b ≠ a := fun b o q z => by
    rw [z] at q
    exact Nat.lt_irrefl _ (Nat.lt_of_lt_of_le (Heap.lt_size q) ha)
  refine inv_know J hna (Heap.get?_none_of_le (Nat.le_trans I.sz ha)) ?_ (fun x c e z => ?_) (fun q hq z => ?_) (exv_ok he rfl rfl rfl)
  · obtain ⟨m, ⟨o, es, ep, ho, r⟩, _⟩ := id I.loc
    exact fun z => old _ _ ho z.symm
  · obtain ⟨v, o, ho, hd⟩ := I.cell x c e
    exact old _ _ ho z
  · exact old _ _ (I.pin q hq).1 z
theorem ep_exc1 {pins : List (Addr × Obj)} {σ : L2.St} {H : Hp} {Q : VK} {s : Shared} {h' : Heap} {tk : Nat} {a t1 dx : Addr} {v : V} {u : Value} (I : Inv X pins σ H s) (k : ∀ b o, s.heap.get? b = some o → h'.get? b = some o) (ha : s.heap.objs.size ≤ a) (hd : s.heap.objs.size ≤ dx)
    (he : h'.get? a = some (PySem.W.excObj C t1 (some dx) .none)) (hn : h'.Ns1 dx (fun y => if y = f then some u else none)) (rv : RelV v u) (q : ∀ dx a, H dx = none → a ≠ dx → H a = none → Q (.ref a) (upd (upd H dx (.xd [(f, v)])) a (ExV (.ref C) (some dx) a))) : EP X pins σ Q (.ref a) { s with heap := h', toks := tk } := by
  have hnd : H dx = none := I.hok.fresh hd
  have hna : H a = none := I.hok.fresh ha
  obtain ⟨mo, es, ep, ho, r⟩ := hn
  have hda : dx ≠ a := fun z => by
    rw [z, he] at ho
    cases ho
    cases r.1
  have J : Inv X pins σ (upd H dx (.xd [(f, v)])) { s with heap := h', toks := tk } := I.laid (t' := tk) k hd ⟨_, ⟨mo, es, ep, ho, r⟩, fun y => by
    by_cases hy : y = f
    · subst hy
      simp [List.lookup]
      exact rv
    · rw [if_neg hy]
      have : ((y == f) = false) := by simpa using hy
      simp [List.lookup, this]
      exact True.intro⟩
  exact ⟨.ref a, _, inv_fresh I ha J (by rw [upd_ne hda.symm]; exact hna) he, rfl, q dx a hnd hda.symm hna⟩
theorem ep_exc0 {pins : List (Addr × Obj)} {σ : L2.St} {H : Hp} {Q : VK} {s : Shared} {h' : Heap} {tk : Nat} {a t1 : Addr} (I : Inv X pins σ H s) (k : ∀ b o, s.heap.get? b = some o → h'.get? b = some o) (ha : s.heap.objs.size ≤ a)
    (he : h'.get? a = some (PySem.W.excObj C t1 none .none)) (q : ∀ a, H a = none → Q (.ref a) (upd H a (ExV (.ref C) none a))) : EP X pins σ Q (.ref a) { s with heap := h', toks := tk } :=
  ⟨.ref a, _, inv_fresh I ha (I.kept (t' := tk) k) (I.hok.fresh ha) he, rfl, q a (I.hok.fresh ha)⟩
def tExV1 (C : Addr) (f : Str) (te : TE) : TE := fun σ H Q => te σ H fun v H1 => ∀ dx a, H1 dx = none → a ≠ dx → H1 a = none → Q (.ref a) (upd (upd H1 dx (.xd [(f, v)])) a (ExV (.ref C) (some dx) a))
theorem pe_exV1 (F : BaF B newId initId bmB) (Y : ExK X.K X.prog X.mg C fI fd (body1 p0 p1 p2 p3 p4 p5 p6 p7 p8 p9 txt f par kk) B newId initId bmB) (J : Ini1 X.K C fd f par p2 p4) (hr : Room 1 X.A) (hg : Gl X x) (hm : X.mg x = some (.ref C)) (he : PE X e te)
    (hs : starEach [e] X.env = (false, eval e X.env) :: starEach [] X.env := by rfl) (hdb : (x == ("__debug__" : Str)) = false := by decide) : PE X (.Call (.Name x p) [e] [] pos) (tExV1 C f te) := ⟨fun pins s σ H Q I h => by
  refine wpAny_Call_Name_kw (ld_glob I hg hm ?_ hdb)
  refine PySem.W.callWith_K (h₀ := X.base) I.ok.mod.kin Y.kp ?_ hs rfl
  rw [hs]
  show wpAny _ _ (spliced ((false, eval e X.env) :: backTo pos (starEach [] X.env))) _ _ s
  refine Calls.spliced_cons (thn (he.run pins s σ H _ I h) fun u s1 ⟨v, H1, I1, r1, q1⟩ => Calls.spliced_nil ⟨I1.kIn, ?_⟩)
  exact wpAny_call (exc_run1 (u := u) F Y J hr I1 fun h' a dx t1 tk k ha hd e2 n2 => ep_exc1 I1 k ha hd e2 n2 r1 q1)⟩
theorem pe_exVK (F : BaF B newId initId bmB) (Y : ExK X.K X.prog X.mg C fI fd (body1 p0 p1 p2 p3 p4 p5 p6 p7 p8 p9 txt f par kk) B newId initId bmB) (J : Ini1 X.K C fd f par p2 p4) (hr : Room 1 X.A) (hg : Gl X x) (hm : X.mg x = some (.ref C)) (he : PE X e te)
    (hdb : (x == ("__debug__" : Str)) = false := by decide) : PE X (.Call (.Name x p) [] [⟨some par, e, kpos⟩] pos) (tExV1 C f te) := ⟨fun pins s σ H Q I h => by
  refine wpAny_Call_Name_kw (ld_glob I hg hm ?_ hdb)
  let W : List V → Hp → Prop := fun zs H1 => match zs with
    | [v] => ∀ dx a, H1 dx = none → a ≠ dx → H1 a = none → Q (.ref a) (upd (upd H1 dx (.xd [(f, v)])) a (ExV (.ref C) (some dx) a))
    | _ => False
  have hall : (backToKw pos (keywordEach [⟨some par, e, kpos⟩] X.env)).all (·.1.isSome) = true := rfl
  have hpl : ((backTo pos (starEach [] X.env)).any (·.1) || (backToKw pos (keywordEach [⟨some par, e, kpos⟩] X.env)).any (·.1.isNone)) = false := rfl
  have hks : (backToKw pos (keywordEach [⟨some par, e, kpos⟩] X.env)).filterMap (·.1) = [par] := rfl
  have hpk : PK X [⟨some par, e, kpos⟩] (tCons te tNil) := pk_cons he pk_nil
  have hW : tCons te tNil σ H W := h
  have hr2 := hpk.run pos pins s σ H W I hW
  refine PySem.W.callWith_KW0 (h₀ := X.base) I.ok.mod.kin Y.kp hall (thn hr2 fun ws s2 => ?_) hpl
  rintro ⟨zs, H2, I2, rz, q2⟩
  refine ⟨I2.kIn, ?_⟩
  rw [hks]
  cases zs with
  | nil => exact (q2 : False).elim
  | cons v zs => cases zs with
    | cons _ _ => exact (q2 : False).elim
    | nil =>
      cases rz with
      | cons r1 rn =>
        cases rn
        exact wpAny_call (exc_runK F Y J hr I2 fun h' a dx t1 tk k ha hd e2 n2 => ep_exc1 I2 k ha hd e2 n2 r1 q2)⟩
def tExV0 (C : Addr) : TE := fun _ H Q => ∀ a, H a = none → Q (.ref a) (upd H a (ExV (.ref C) none a))
theorem pe_exV0 (F : BaF B newId initId bmB) (Y : ExK X.K X.prog X.mg C fI fd (body0 p0 p1 p2 p3 p4 p5 txt kk) B newId initId bmB) (J : Ini0 fd p2 p4) (hr : Room 1 X.A) (hg : Gl X x) (hm : X.mg x = some (.ref C)) (hdb : (x == ("__debug__" : Str)) = false := by decide) :
    PE X (.Call (.Name x p) [] [] pos) (tExV0 C) := ⟨fun pins s σ H Q I h => by
  refine wpAny_Call_Name_kw (ld_glob I hg hm ?_ hdb)
  refine PySem.W.callWith_K0 I.kIn Y.kp ?_
  exact wpAny_call (exc_run0 F Y J hr I fun h' a t1 tk k ha e2 => ep_exc0 I k ha e2 h)⟩
end
def xExc1 (c : Nat) (m : Ex) : Ex := fun σ S => (m σ S).bind fun d S1 => .ok (.exc c [d]) S1
def xExc0 (c : Nat) : Ex := fun _ S => .ok (.exc c []) S
section
variable {X : Cx} {Z : Env1} {e0 : Expr} {m : Ex} {c : Nat} {f : Str}
theorem de_exV1 (hf : excField c = some f) (hp : PE X e0 (tExV1 (Z.K.cl c) f (lE Z m))) : DE X Z e0 (xExc1 c m) := PE.imp hp fun σV H Q => by
  rintro ⟨g, j, σ, S, R, h⟩
  refine ⟨g, j, σ, S, R, OutR.bind (fun d S1 j1 v H1 R1 s1 rd h1 dx a hdx hne hna => ?_) h⟩
  have hna2 : upd H1 dx (.xd [(f, v)]) a = none := by rw [upd_ne hne]; exact hna
  have R2 := R1.alloc (p := dx) (o := .xd [(f, v)]) hdx
  have R3 := R2.alloc (p := a) (o := ExV (.ref (Z.K.cl c)) (some dx) a) hna2
  have nF : ∀ y, H1 y = none → ¬ FF Z.lin g.B j1 S1.length σ σV y := fun y hy z => by
    obtain ⟨o, eo⟩ := R1.trk y z
    rw [hy] at eo; cases eo
  refine h1 j1 (.ref a) _ R3 ((Stp.alloc hdx).trans (Stp.alloc hna2)) ?_
  exact .exc1 hf upd_same (by show upd (upd H1 dx _) a _ dx = _; rw [upd_ne (Ne.symm hne)]; exact upd_same) (nF a hna) (nF dx hdx) ((rd.mono (le_alloc hdx)).mono (le_alloc hna2))
theorem de_exV0 (hf : excField c = none) (hp : PE X e0 (tExV0 (Z.K.cl c))) : DE X Z e0 (xExc0 c) := PE.imp hp fun σV H Q => by
  rintro ⟨g, j, σ, S, R, h⟩
  refine fun a hna => ?_
  have R3 := R.alloc (p := a) (o := ExV (.ref (Z.K.cl c)) none a) hna
  refine h j (.ref a) _ R3 (Stp.alloc hna) (.exc0 hf upd_same fun z => ?_)
  obtain ⟨o, eo⟩ := R.trk a z
  rw [hna] at eo; cases eo
end
end Qi
namespace Qi
open PySem PySem.Spec L2 PyProof.Rows
def zpL : List D → List D → List D
  | a :: l, b :: r => .tup [a, b] :: zpL l r
  | _, _ => []
theorem zpL_get : ∀ (l r : List D) (i : Nat) (d : D), (zpL l r)[i]? = some d → ∃ a b, l[i]? = some a ∧ r[i]? = some b ∧ d = .tup [a, b]
  | [], _, i, d, h => by simp [zpL] at h
  | _ :: _, [], i, d, h => by simp [zpL] at h
  | a :: l, b :: r, 0, d, h => by simp [zpL] at h; exact ⟨a, b, rfl, rfl, h.symm⟩
  | a :: l, b :: r, i + 1, d, h => by
    simp only [zpL, List.getElem?_cons_succ] at h ⊢
    exact zpL_get l r i d h
theorem zpL_len : ∀ (l r : List D), (zpL l r).length = min l.length r.length
  | [], r => by simp [zpL]
  | _ :: _, [] => by simp [zpL]
  | a :: l, b :: r => by simp only [zpL, List.length_cons, zpL_len l r]; omega
def mZip (ms : Ag) : Ag := fun σ S => (ms σ S).bind fun ds S1 => match ds with
  | [.lst l, .lst r] => .ok (zpL l r) S1
  | [.tup l, .tup r] => .ok (zpL l r) S1
  | _ => .stuck
theorem rd_pr {w : Wo} {T : Addr} {d e : D} {v u : V} (h : w.H T = none) (hf : ∀ a, w.F a → ∃ o, w.H a = some o) (rd : RD w d v) (re : RD w e u) : RD { w with H := upd w.H T (.tup [v, u]) } (.tup [d, e]) (.ref T) := by
  refine .tup (.inl upd_same) (fun z => ?_) (by show 2 ≤ sizeLine; decide) (.cons (rd.mono (Wo.Le.laid h)) (.cons (re.mono (Wo.Le.laid h)) .nil))
  obtain ⟨o, e⟩ := hf T z
  rw [h] at e; cases e
section
variable {w : Wo} {ds es : List D} {a b : Addr}
theorem it_zipL (hl : ds.length ≤ sizeLine) (hv : ∀ w2, w.Le w2 → ∃ vs, SqL w.K.K w2.H a vs ∧ RDs w2 ds vs) (hu : ∀ w2, w.Le w2 → ∃ vs, SqL w.K.K w2.H b vs ∧ RDs w2 es vs) : ItD w (zpL ds es) (Itz w.K.K a b) where
  go := fun i w2 hi le => by
    obtain ⟨vs, h, r⟩ := hv w2 le
    obtain ⟨us, h', r'⟩ := hu w2 le
    obtain ⟨x, y, e1, e2, _⟩ := zpL_get ds es i _ (List.getElem?_eq_getElem hi)
    obtain ⟨v, ev, _⟩ := r.get e1
    obtain ⟨u, eu, _⟩ := r'.get e2
    exact ⟨vs, us, v, u, h, h', ev, eu⟩
  stop := fun w2 le => by
    obtain ⟨vs, h, r⟩ := hv w2 le
    obtain ⟨us, h', r'⟩ := hu w2 le
    refine ⟨vs, us, h, h', ?_⟩
    rw [zpL_len, r.length, r'.length]
    omega
  yld := fun i d w2 x H3 hd le hf hy => by
    obtain ⟨T, p, q, rfl, hT, rfl, hx, hx'⟩ := hy
    obtain ⟨vs, h, r⟩ := hv w2 le
    obtain ⟨us, h', r'⟩ := hu w2 le
    obtain ⟨x, y, e1, e2, rfl⟩ := zpL_get ds es i _ hd
    obtain ⟨v, ev, rv⟩ := r.get e1
    obtain ⟨u, eu, ru⟩ := r'.get e2
    have z1 := hx vs h
    have z2 := hx' us h'
    rw [ev] at z1
    rw [eu] at z2
    cases z1
    cases z2
    exact ⟨.inr ⟨T, _, hT, rfl⟩, rd_pr hT hf rv ru⟩
  len := by rw [zpL_len]; omega
theorem it_zipT (hl : ds.length ≤ sizeLine) (hv : ∀ w2, w.Le w2 → ∃ vs, SqT w.K.K w2.H a vs ∧ RDs w2 ds vs) (hu : ∀ w2, w.Le w2 → ∃ vs, SqT w.K.K w2.H b vs ∧ RDs w2 es vs) : ItD w (zpL ds es) (RZ.ItzT w.K.K a b) where
  go := fun i w2 hi le => by
    obtain ⟨vs, h, r⟩ := hv w2 le
    obtain ⟨us, h', r'⟩ := hu w2 le
    obtain ⟨x, y, e1, e2, _⟩ := zpL_get ds es i _ (List.getElem?_eq_getElem hi)
    obtain ⟨v, ev, _⟩ := r.get e1
    obtain ⟨u, eu, _⟩ := r'.get e2
    exact ⟨vs, us, v, u, h, h', ev, eu⟩
  stop := fun w2 le => by
    obtain ⟨vs, h, r⟩ := hv w2 le
    obtain ⟨us, h', r'⟩ := hu w2 le
    refine ⟨vs, us, h, h', ?_⟩
    rw [zpL_len, r.length, r'.length]
    omega
  yld := fun i d w2 x H3 hd le hf hy => by
    obtain ⟨T, p, q, rfl, hT, rfl, hx, hx'⟩ := hy
    obtain ⟨vs, h, r⟩ := hv w2 le
    obtain ⟨us, h', r'⟩ := hu w2 le
    obtain ⟨x, y, e1, e2, rfl⟩ := zpL_get ds es i _ hd
    obtain ⟨v, ev, rv⟩ := r.get e1
    obtain ⟨u, eu, ru⟩ := r'.get e2
    have z1 := hx vs h
    have z2 := hx' us h'
    rw [ev] at z1
    rw [eu] at z2
    cases z1
    cases z2
    exact ⟨.inr ⟨T, _, hT, rfl⟩, rd_pr hT hf rv ru⟩
  len := by rw [zpL_len]; omega
end
theorem di_zip {X : Cx} {Z : Env1} {e1 e2 : Expr} {ms : Ag} {p pos tpos : Pos} {elts : List Expr} {kk : Nat} (hg : Gl X "zip") (hm : X.mg "zip" = none) (h : DA X Z [e1, e2] ms) (hs : starEach [e1, e2] X.env = (false, eval e1 X.env) :: starEach [e2] X.env) (hpl : (backTo pos (starEach [e2] X.env)).any (·.1) = false) (hK : Z.K.K = X.K) :
    DI X Z (.Tuple elts kk tpos) (.Call (.Name "zip" p) [e1, e2] [] pos) (mZip ms) := PI.imp (RZ.pi_zipA hg hm h hs hpl) fun σV H R => by
  rintro ⟨g, j, σ, S, R0, h⟩
  refine ⟨g, j, σ, S, R0, OutR.bind (fun ds S1 j1 vs H1 R1 s1 rds h1 => ?_) h⟩
  match ds, rds, h1 with
  | [.lst l, .lst r], .cons r1 (.cons r2 .nil), h1 =>
    obtain ⟨p1, vs1, rfl, q1, _, _⟩ := r1.of_lst
    obtain ⟨p2, vs2, rfl, q2, _, _⟩ := r2.of_lst
    refine ⟨p1, p2, vs1, vs2, rfl, .inl ⟨.of q1, .of q2, ?_⟩⟩
    rw [← hK]
    refine h1 j1 _ H1 R1 Stp.refl (it_zipL r1.len_lst (fun w2 le => ?_) fun w2 le => ?_)
    · obtain ⟨p', vs', e', h', r', _⟩ := (r1.mono le).of_lst
      cases e'
      exact ⟨vs', .of h', r'⟩
    · obtain ⟨p', vs', e', h', r', _⟩ := (r2.mono le).of_lst
      cases e'
      exact ⟨vs', .of h', r'⟩
  | [.tup l, .tup r], .cons r1 (.cons r2 .nil), h1 =>
    obtain ⟨p1, vs1, rfl, q1, _⟩ := r1.of_tup
    obtain ⟨p2, vs2, rfl, q2, _⟩ := r2.of_tup
    refine ⟨p1, p2, vs1, vs2, rfl, .inr ⟨by rw [← hK]; exact q1, by rw [← hK]; exact q2, ?_⟩⟩
    rw [← hK]
    refine h1 j1 _ H1 R1 Stp.refl (it_zipT r1.len_tup (fun w2 le => ?_) fun w2 le => ?_)
    · obtain ⟨p', vs', e', h', r'⟩ := (r1.mono le).of_tup
      cases e'
      rw [le.k] at h'
      exact ⟨vs', h', r'⟩
    · obtain ⟨p', vs', e', h', r'⟩ := (r2.mono le).of_tup
      cases e'
      rw [le.k] at h'
      exact ⟨vs', h', r'⟩
  | [], _, h1 => exact h1.elim
  | [_], _, h1 => cases ‹D› <;> exact h1.elim
  | a :: b :: _ :: _, _, h1 => cases a <;> first | exact h1.elim | (cases b <;> exact h1.elim)
  | [.non, _], _, h1 => exact h1.elim
  | [.bl _, _], _, h1 => exact h1.elim
  | [.int _, _], _, h1 => exact h1.elim
  | [.str _, _], _, h1 => exact h1.elim
  | [.dic _, _], _, h1 => exact h1.elim
  | [.ref _, _], _, h1 => exact h1.elim
  | [.obj _ _, _], _, h1 => exact h1.elim
  | [.exc _ _, _], _, h1 => exact h1.elim
  | [.clo _ _, _], _, h1 => exact h1.elim
  | [.scr _, _], _, h1 => exact h1.elim
  | [.lst _, .non], _, h1 => exact h1.elim
  | [.lst _, .bl _], _, h1 => exact h1.elim
  | [.lst _, .int _], _, h1 => exact h1.elim
  | [.lst _, .str _], _, h1 => exact h1.elim
  | [.lst _, .tup _], _, h1 => exact h1.elim
  | [.lst _, .dic _], _, h1 => exact h1.elim
  | [.lst _, .ref _], _, h1 => exact h1.elim
  | [.lst _, .obj _ _], _, h1 => exact h1.elim
  | [.lst _, .exc _ _], _, h1 => exact h1.elim
  | [.lst _, .clo _ _], _, h1 => exact h1.elim
  | [.lst _, .scr _], _, h1 => exact h1.elim
  | [.tup _, .non], _, h1 => exact h1.elim
  | [.tup _, .bl _], _, h1 => exact h1.elim
  | [.tup _, .int _], _, h1 => exact h1.elim
  | [.tup _, .str _], _, h1 => exact h1.elim
  | [.tup _, .lst _], _, h1 => exact h1.elim
  | [.tup _, .dic _], _, h1 => exact h1.elim
  | [.tup _, .ref _], _, h1 => exact h1.elim
  | [.tup _, .obj _ _], _, h1 => exact h1.elim
  | [.tup _, .exc _ _], _, h1 => exact h1.elim
  | [.tup _, .clo _ _], _, h1 => exact h1.elim
  | [.tup _, .scr _], _, h1 => exact h1.elim
end Qi
namespace Qi
open PySem PySem.Spec L2 PyProof.Rows
theorem meth_eval {o : Expr} {m : Str} {env : Env} {args : List Expr} {ap cp : Pos} (hline : (ap.endLine == cp.line) = true) (few : methodCallForm (args.length + ([] : List Keyword).length) (backTo cp (starEach args env)) (backToKw cp (keywordEach [] env)) = true) (hb : attributeBase o m env (eval o env) = eval o env) : eval (.Call (.Attribute o m ap) args [] cp) env = (do
      let ov ← eval o env
      standAt ap.atName
      let (f, first) ← holding [ov] (getMethod ov m (do return (← importBound o env).getD true))
      callWith cp f first (backTo cp (starEach args env)) (backToKw cp (keywordEach [] env))) := by
  have hpos : methodCallPos true o env ap cp = pure cp := by unfold methodCallPos; simp [hline]
  rw [arm_eval_Call]
  unfold methodCall
  rw [few, hpos, hb]
  simp only [calleeOf, if_true, pure_bind]
/-- the call of what is promised, its exceptions taken -/
theorem run_meth {X : Cx} {Z : Env1} {k np f : Nat} {fa : Addr} {cf : Cf} {pins : List (Addr × Obj)} {σV : L2.St} {H : Hp} {s : Shared} {Q : VK} {us : List Value} {vs : List V} (F : FnR X.prog X.w X.K X.mg X.base (L2.CX X.prog X.w) k fa (CallSp Z.K cf f np)) (hr : Room k X.A) (tk : Takes X Z.W) (I : Inv X pins σV H s) (r : Vals vs us)
    (h : CallSp Z.K cf f np vs H Q (WE Z.W σV)) : wpAny (model X.prog X.w) X.A (call (.ref fa) us) (EP X pins σV Q) X.xe s := by
  refine wpAny_call (codeAny_mono (F X.A X.stack s H us vs Q (WE Z.W σV) hr I.env0 r h) fun r s' hq => ?_)
  cases r with
  | error e => exact (passAt tk) σV pins H s e s' I hq
  | ok fl =>
    cases fl with
    | ret u => exact I.after hq
    | _ => exact False.elim hq
def xMeth (cf : Cf) (f np cn : Nat) (m : Ex) (ms : Ag) : Ex := fun σ S => (m σ S).bind fun d S1 => match d with
  | .obj c fs => if c = cn then (ms σ S1).bind fun ds S2 => if ds.length + 1 = np then cf f (.obj c fs :: ds) S2 else .stuck else .stuck
  | _ => .stuck
theorem de_methO {X : Cx} {Z : Env1} {o e : Expr} {es : List Expr} {ma : Ex} {ms : Ag} {cf : Cf} {f np cn k : Nat} {m : Str} {fa : Addr} {ap pos : Pos} (he : DE X Z o ma) (sc : SlX.SCls X.K (Z.K.cl cn)) (hm : Meth X.K (Z.K.cl cn) m fa) (F : FnR X.prog X.w X.K X.mg X.base (L2.CX X.prog X.w) k fa (CallSp Z.K cf f np)) (hr : Room k X.A) (tk : Takes X Z.W) (ha : DA X Z (e :: es) ms)
    (hst : starEach (e :: es) X.env = (false, eval e X.env) :: starEach es X.env) (hpl : (backTo pos (starEach es X.env)).any (·.1) = false) (hline : (ap.endLine == pos.line) = true) (few : methodCallForm ((e :: es).length + ([] : List Keyword).length) (backTo pos (starEach (e :: es) X.env)) (backToKw pos (keywordEach [] X.env)) = true) (hb : attributeBase o m X.env (eval o X.env) = eval o X.env) :
    DE X Z (.Call (.Attribute o m ap) (e :: es) [] pos) (xMeth cf f np cn ma ms) := by
  refine ⟨fun pins s σV H Q I q => ?_⟩
  obtain ⟨g, j, σ, S, R, h⟩ := q
  let W : VK := fun v H1 => ∃ a dx vs, v = .ref a ∧ SlX.Slt H1 a (Z.K.cl cn) dx vs ∧ lA Z ms σV H1 fun ws H2 => CallSp Z.K cf f np (v :: ws) H2 Q (WE Z.W σV)
  have h0 : OutR Z g j σ S σV H RD W (ma σ S) := OutR.bind (fun d S1 j1 v H1 R1 s1 rd h1 => by
    cases d with
    | obj c fs =>
      dsimp only at h1
      by_cases hc : c = cn
      · subst hc
        rw [if_pos rfl] at h1
        obtain ⟨a, dx, vs, rfl, hs, r⟩ := rd.of_obj
        refine ⟨a, dx, vs.map some, rfl, hs, g, j1, σ, S1, R1, OutR.bind (fun ds S2 j2 ws H2 R2 s2 rds h2 => ?_) h1⟩
        split at h2
        · rename_i hnp
          refine ⟨keepB Z.lin g.B σ σV, j2, S2, .obj c fs :: ds, R2.enter, .cons ((rd.mono s2.wle).mono le_in) (rds.mono le_in), by rw [List.length_cons]; exact hnp, ?_⟩
          generalize cf f (.obj c fs :: ds) S2 = r at h2
          match r, h2 with
          | .ok d S3, h2 => exact fun j3 v H3 C rd => h2 j3 v H3 (R2.follow C) C.stp (rd.mono le_out)
          | .exc x S3, h2 => exact fun j3 cls dd H3 C rx => h2 j3 cls dd H3 (R2.follow C) C.stp (rx.mono le_out)
          | .stuck, h2 => exact h2
        · exact h2.elim
      · rw [if_neg hc] at h1; exact h1.elim
    | _ => exact h1.elim) h
  refine PySem.W.methodCall_KW (thn (he.run pins s σV H W I ⟨g, j, σ, S, R, h0⟩) fun u s1 hh => ?_) (meth_eval hline few hb)
  obtain ⟨x, H1, I1, rx, a, dx, vs, rfl, hsl, q⟩ := hh
  obtain rfl : u = Value.ref a := rx
  refine SlX.getmethsl_ok I1 hsl sc hm ?_
  refine PySem.W.callWith_K (first := [.ref a]) (h₀ := X.base) I.ok.mod.kin hm.kp (thn (ha.run pos pins s1 σV H1 _ I1 q) fun us s2 hh2 => ?_) hst hpl
  obtain ⟨ws, H2, I2, r, q2⟩ := hh2
  exact ⟨I2.kIn, run_meth (us := .ref a :: us) (vs := .ref a :: ws) F hr tk I2 (.cons rfl r) q2⟩
end Qi
namespace Qi
open PySem PySem.Spec L2 PyProof.Rows
def tyNames : List String := ["NoneType", "bool", "int", "str", "list", "tuple", "dict"]
def TyV (K : PySem.W.Frag) (H : Hp) : V → String → Prop
  | .non, T => T = "NoneType"
  | .bl _, T => T = "bool"
  | .int _, T => T = "int"
  | .str _, T => T = "str"
  | .ref a, T => (∃ xs, SqL K H a xs ∧ T = "list") ∨ (∃ xs, SqT K H a xs ∧ T = "tuple") ∨ (H a = some (.dK []) ∧ T = "dict")
  | _, _ => False
def natB (K : PySem.W.Frag) (C : Addr) : Bool := tyNames.all fun T => PySem.W.notFirst K C (.type T)
section
variable {X : Cx} {pins : List (Addr × Obj)} {σ : L2.St} {H : Hp} {s : Shared}
theorem TyV.mem {K : PySem.W.Frag} {y : V} {T : String} (h : TyV K H y T) : T ∈ tyNames := by
  cases y with
  | ref a => rcases h with ⟨_, _, rfl⟩ | ⟨_, _, rfl⟩ | ⟨_, rfl⟩ <;> decide
  | non => cases h; decide
  | bl _ => cases h; decide
  | int _ => cases h; decide
  | str _ => cases h; decide
  | _ => exact h.elim
theorem TyV.looks {M : Model} (I : Inv X pins σ H s) {y : V} {u : Value} {T : String} (h : TyV X.K H y T) (r : RelV y u) : PySem.W.Looks M s.heap (typeOf u) (.type T) := by
  cases y with
  | non => cases h; cases (show u = Value.none from r); exact PySem.W.Looks.of_pure rfl
  | bl b => cases h; cases (show u = Value.bool b from r); exact PySem.W.Looks.of_pure rfl
  | int i => cases h; obtain ⟨t, rfl⟩ := (show ∃ t, u = Value.int i t from r); exact PySem.W.Looks.of_pure rfl
  | str i => cases h; obtain ⟨t, rfl⟩ := (show ∃ t, u = Value.str i t from r); exact PySem.W.Looks.of_pure rfl
  | ref a =>
    cases (show u = Value.ref a from r)
    rcases h with ⟨_, h, rfl⟩ | ⟨_, h, rfl⟩ | ⟨h, rfl⟩
    · obtain ⟨its, rv, ⟨o, n, ho, hc, _, hd⟩, _⟩ := I.list h
      exact hc ▸ (PySem.W.Looks.ld ho).andThen .now
    · obtain ⟨its, rv, ⟨o, ho, hc, n, hd⟩, _⟩ := I.tuple h
      exact hc ▸ (PySem.W.Looks.ld ho).andThen .now
    · obtain ⟨_, hsm, vs, kv, o, es, ep, ho, hx, hd, _⟩ := dk_of I.hok h
      exact hx.1 ▸ (PySem.W.Looks.ld ho).andThen .now
  | _ => exact h.elim
end
section
variable {X : Cx} {Z : Env1}
theorem op_eqOwnT {cf : Cf} {f k : Nat} {C fa : Addr} (F : OwnF X Z.K C cf k "__eq__" fa f 2) (hn : natB X.K C = true) (hr : Room (k + 1) X.A) :
    OpR X (compareOp .Eq) (fun x y H Q => ∃ a dx vs T, x = .ref a ∧ SlX.Slt H a C dx vs ∧ TyV X.K H y T ∧ CallSp Z.K cf f 2 [x, y] H Q noE) := by
  intro pins s σ H x y v u Q I rx ry h
  obtain ⟨a, dx, vs, T, rfl, ha, ht, q⟩ := h
  cases (show v = Value.ref a from rx)
  obtain ⟨sl, od, _, J, _⟩ := SlX.slt_inst I ha
  obtain ⟨m, hF⟩ := I.fr
  show wpAny _ _ (richCompare .Eq (.ref a) u) _ _ _
  refine PySem.W.cmp_K (op := .Eq) (tb := .type T) hr.units0 hF I.ok.mod.kin J (TyV.looks I ht ry) (List.all_eq_true.mp hn T (TyV.mem ht)) F.at_ F.fn ?_
  refine wpAny_mono (wpAny_call (run_fnR (us := [.ref a, u]) (vs := [.ref a, y]) F.ok (hr.mono (by omega)) passNo I (.cons rfl (.cons ry .nil)) q)) (fun w s' z => ?_) fun _ _ x => x
  obtain ⟨z', H', I', rz, qz⟩ := z
  exact SlX.cmpback rz ⟨z', H', I', rz, qz⟩
theorem op_neOwnT {cf : Cf} {f k : Nat} {C fa : Addr} (F : OwnF X Z.K C cf k "__eq__" fa f 2) (hne : PySem.W.findIn X.K (.ref C) "__ne__" = some (some (.builtin "object.__ne__"))) (hm : PySem.W.mroIn X.K C (.type "object") = some true) (hn : natB X.K C = true) (hr : Room (k + 1) X.A) :
    OpR X (compareOp .NotEq) (fun x y H Q => ∃ a dx vs T, x = .ref a ∧ SlX.Slt H a C dx vs ∧ TyV X.K H y T ∧ CallSp Z.K cf f 2 [x, y] H (fun z H' => ∃ q, z = .bl q ∧ Q (.bl (!q)) H') noE) := by
  intro pins s σ H x y v u Q I rx ry h
  obtain ⟨a, dx, vs, T, rfl, ha, ht, q⟩ := h
  cases (show v = Value.ref a from rx)
  obtain ⟨sl, od, _, J, _⟩ := SlX.slt_inst I ha
  have hu : X.A.units + 1 < cLine := by have := hr.un; omega
  refine ne_own hu I.kIn J (TyV.looks I ht ry) (List.all_eq_true.mp hn T (TyV.mem ht)) hne F.at_ F.fn hm (wpAny_mono (wpAny_call (SlX.run_at (us := [.ref a, u]) (ws := [.ref a, y]) F.ok hr.in1 I.env0.in1 passNo I (.cons rfl (.cons ry .nil)) q)) (fun w s' z => ?_) fun _ _ x => x)
  obtain ⟨z', H', I', rz, k', ek, qz⟩ := z
  subst ek
  cases (show w = Value.bool k' from rz)
  exact ⟨k', rfl, .bl (!k'), H', I', rfl, qz⟩
end
section
variable {prog : Program} {w : World} {A : Around} {E : Value → Shared → Prop} {s : Shared} {K : PySem.W.Frag} {x C f : Addr} {ox : Obj} {od : Option Obj} {u : Value} {T id : String}
theorem eq_left {Q : Value → Shared → Prop} (hu : A.units < cLine) (X : K.In s.heap) (J : PySem.W.InstAt s.heap x ox C od) (hT : s.TypeIs u T) (hm : PySem.W.mroIn K C (.type T) = some false) (sl : Slot T (cmpInfo .Eq).2.1 id)
    (hd : wpAny (model prog w) A (call (.builtin id) [u, .ref x]) (fun v s' => v = .notImplemented ∧ s' = s) E s)
    (hs : PySem.W.findIn K (.ref C) "__eq__" = some (some (.ref f))) (hf : PySem.W.isFn K (.ref f) = true)
    (h : wpAny (model prog w) A (call (.ref f) [.ref x, u]) (PySem.W.CmpBack Q) E s) : wpAny (model prog w) A (richCompare .Eq u (.ref x)) Q E s := by
  have one : wpAny (model prog w) A (tryCompare (.ref x) (cmpInfo .Eq).2.2 u) (fun r s' => ∃ v, r = some v ∧ Q v s') E s := by
    unfold tryCompare
    refine wpAny_bind (PySem.W.ifBound_K X J hs hf (wpAny_mono h (fun v s' hv => ?_) fun _ _ e => e))
    cases v <;> first | exact hv.elim | exact wpAny_pure ⟨_, rfl, hv⟩
  have sub : PySem.W.Looks (model prog w) s.heap (isSubtype (.ref C) (.type T)) false := PySem.W.looks_mroIn X hm
  simp only [richCompare, hT.oneThing_none]
  refine wpAny_holding (wpAny_bind (wpAny_cRoomFor hu ?_))
  refine wpAny_bind (wpAny_typeOf hT (wpAny_bind (J.type.here ?_)))
  have hne : (Value.type T != Value.ref C) = true := rfl
  rw [hne]
  refine wpAny_bind (sub.here ?_)
  simp only [Bool.false_eq_true, if_false]
  refine wpAny_bind (wpAny_tryCompare_declines hT sl (wpAny_mono hd (fun v s' hv => ?_) fun _ _ e => e))
  obtain ⟨rfl, rfl⟩ := hv
  refine ⟨rfl, ?_⟩
  refine wpAny_bind (wpAny_mono one (fun r s' z => ?_) fun _ _ e => e)
  obtain ⟨v, rfl, hq⟩ := z
  exact wpAny_pure hq
end
end Qi
namespace Qi
open PySem PySem.Spec L2 PyProof.Rows
theorem int_decl_inst (b : Int) (u : Tok) (l C dx : Addr) (sl : Array (Option Value)) :
    Meets (Builtin.«int.__eq__» ⟨[.int b u, .ref l], []⟩) (fun _ R s => s.heap.get? l = some { PySem.W.instObj C dx with slots := sl } ∧ R (.ok (.ret .notImplemented)) s) :=
  .of_wp fun prog w A R s h => by obtain ⟨hp, g, d, tk, os⟩ := s; obtain ⟨hl, h⟩ := h; unfold PySem.W.instObj at hl; wp_walk using wpAny_load' hl; exact ⟨_, rfl, h⟩
theorem bool_decl_inst (b : Bool) (l C dx : Addr) (sl : Array (Option Value)) :
    Meets (Builtin.«int.__eq__» ⟨[.bool b, .ref l], []⟩) (fun _ R s => s.heap.get? l = some { PySem.W.instObj C dx with slots := sl } ∧ R (.ok (.ret .notImplemented)) s) :=
  .of_wp fun prog w A R s h => by obtain ⟨hp, g, d, tk, os⟩ := s; obtain ⟨hl, h⟩ := h; unfold PySem.W.instObj at hl; wp_walk using wpAny_load' hl; exact ⟨_, rfl, h⟩
theorem str_decl_inst (b : Str) (u : Tok) (l C dx : Addr) (sl : Array (Option Value)) :
    Meets (Builtin.«str.__eq__» ⟨[.str b u, .ref l], []⟩) (fun _ R s => s.heap.get? l = some { PySem.W.instObj C dx with slots := sl } ∧ R (.ok (.ret .notImplemented)) s) :=
  .of_wp fun prog w A R s h => by obtain ⟨hp, g, d, tk, os⟩ := s; obtain ⟨hl, h⟩ := h; unfold PySem.W.instObj at hl; wp_walk using wpAny_load' hl; exact ⟨_, rfl, h⟩
section
variable {prog : Program} {w : World} {A : Around} {E : Value → Shared → Prop} {s : Shared} {x l : Addr}
theorem list_decl (h : PySem.W.Looks (model prog w) s.heap (isInstance (.ref x) (.type "list")) false) : wpAny (model prog w) A (Builtin.«list.__eq__» ⟨[.ref l, .ref x], []⟩) (fun fin s' => fin = .done (.ret .notImplemented) ∧ s' = s) E s := by
  unfold Builtin.«list.__eq__»
  refine wpAny_bind (m := slotArgs "__eq__" 1 ⟨[.ref l, .ref x], []⟩) (wpAny_pure ?_)
  refine wpAny_bind (m := isInstance (.ref x) (.type "list")) (h.here ?_)
  exact wpAny_pure ⟨rfl, rfl⟩
theorem tuple_decl (h : PySem.W.Looks (model prog w) s.heap (isInstance (.ref x) (.type "tuple")) false) : wpAny (model prog w) A (Builtin.«tuple.__eq__» ⟨[.ref l, .ref x], []⟩) (fun fin s' => fin = .done (.ret .notImplemented) ∧ s' = s) E s := by
  unfold Builtin.«tuple.__eq__»
  refine wpAny_bind (m := slotArgs "__eq__" 1 ⟨[.ref l, .ref x], []⟩) (wpAny_pure ?_)
  refine wpAny_bind (m := isInstance (.ref x) (.type "tuple")) (h.here ?_)
  exact wpAny_pure ⟨rfl, rfl⟩
theorem dict_decl (hT : s.TypeIs (.ref l) "dict") (h : PySem.W.Looks (model prog w) s.heap (isInstance (.ref x) (.type "dict")) false) : wpAny (model prog w) A (Builtin.«dict.__eq__» ⟨[.ref l, .ref x], []⟩) (fun fin s' => fin = .done (.ret .notImplemented) ∧ s' = s) E s := by
  unfold Builtin.«dict.__eq__»
  refine wpAny_bind (m := PySem.Builtin.Dict.dictSlotArgs "__eq__" ⟨[.ref l, .ref x], []⟩) ?_
  unfold PySem.Builtin.Dict.dictSlotArgs
  refine wpAny_bind (wpAny_notOrdered_dict hT ?_)
  refine wpAny_bind (m := slotArgs "__eq__" 1 ⟨[.ref l, .ref x], []⟩) (wpAny_pure (wpAny_pure ?_))
  refine wpAny_bind (m := isInstance (.ref x) (.type "dict")) (h.here ?_)
  exact wpAny_bind (wpAny_rule (wpAny_pure ⟨rfl, rfl⟩))
/-- the call of the slot, from its body -/
theorem decl_call {u : Value} {T id : String} {name : Str} {B : Builtin} {rest : List Value} (slot : Slot T name id) (hT : s.TypeIs u T) (entry : entryFor table id = some B) (args : argsOk id ⟨u :: rest, []⟩)
    (h : ∀ (A : Around) (E : Value → Shared → Prop), wpAny (model prog w) A (B ⟨u :: rest, []⟩) (fun fin s' => fin = .done (.ret .notImplemented) ∧ s' = s) E s) :
    wpAny (model prog w) A (call (.builtin id) (u :: rest)) (fun v s' => v = .notImplemented ∧ s' = s) E s := by
  refine wpAny_call (codeAny_call_builtin slot.plain entry (slot.check _ _ _ _ _ _ _ _ hT args (wpAny_mono (h _ _) (fun fin s' z => ?_) fun _ _ e => e)))
  obtain ⟨rfl, rfl⟩ := z
  exact ⟨rfl, rfl⟩
end
def leftB (K : PySem.W.Frag) (C : Addr) : Bool := tyNames.all fun T => PySem.W.mroIn K C (.type T) == some false
section
variable {X : Cx} {Z : Env1}
theorem op_eqOwnL {cf : Cf} {f k : Nat} {C fa : Addr} (F : OwnF X Z.K C cf k "__eq__" fa f 2) (hn : leftB X.K C = true) (hr : Room (k + 1) X.A) :
    OpR X (compareOp .Eq) (fun x y H Q => ∃ a dx vs T, y = .ref a ∧ SlX.Slt H a C dx vs ∧ TyV X.K H x T ∧ CallSp Z.K cf f 2 [y, x] H Q noE) := by
  intro pins s σ H x y v u Q I rx ry h
  obtain ⟨a, dx, vs, T, rfl, ha, ht, q⟩ := h
  cases (show u = Value.ref a from ry)
  obtain ⟨sl, od, _, J, _⟩ := SlX.slt_inst I ha
  have hu : X.A.units < cLine := hr.units0
  have hm : ∀ T ∈ tyNames, PySem.W.mroIn X.K C (.type T) = some false := fun T hT => beq_iff_eq.mp (List.all_eq_true.mp hn T hT)
  have isI : ∀ T ∈ tyNames, PySem.W.Looks (model X.prog X.w) s.heap (isInstance (.ref a) (.type T)) false := fun T hT => J.type.andThen (PySem.W.looks_mroIn I.kIn (hm T hT))
  have fin : wpAny (model X.prog X.w) X.A (call (.ref fa) [.ref a, v]) (PySem.W.CmpBack (EP X pins σ Q)) X.xe s := by
    refine wpAny_mono (wpAny_call (run_fnR (us := [.ref a, v]) (vs := [.ref a, x]) F.ok (hr.mono (by omega)) passNo I (.cons rfl (.cons rx .nil)) q)) (fun w s' z => ?_) fun _ _ x => x
    obtain ⟨z', H', I', rz, qz⟩ := z
    exact SlX.cmpback rz ⟨z', H', I', rz, qz⟩
  have hmem := TyV.mem ht
  show wpAny _ _ (richCompare .Eq v (.ref a)) _ _ _
  cases x with
  | non =>
    cases ht
    cases (show v = Value.none from rx)
    exact eq_left hu I.kIn J (T := "NoneType") rfl (hm _ hmem) PySem.F.slot_NoneType_eq (call_gives PySem.F.slot_NoneType_eq (show s.TypeIs .none "NoneType" from rfl) PySem.F.entry_NoneType_eq (PySem.F.args_NoneType_eq_2 _ _) (PySem.SeqAt.NoneType___eq___none_ref_0 a) ⟨rfl, rfl⟩) F.at_ F.fn fin
  | bl b =>
    cases ht
    cases (show v = Value.bool b from rx)
    exact eq_left hu I.kIn J (T := "bool") rfl (hm _ hmem) PySem.F.slot_bool_eq (call_meets PySem.F.slot_bool_eq (show s.TypeIs (.bool b) "bool" from rfl) PySem.F.entry_int_eq (PySem.F.args_int_eq_2 _ _) (bool_decl_inst b a C dx sl) ⟨J.at_, rfl, rfl⟩) F.at_ F.fn fin
  | int i =>
    cases ht
    obtain ⟨t, rfl⟩ := (show ∃ t, v = Value.int i t from rx)
    exact eq_left hu I.kIn J (T := "int") rfl (hm _ hmem) PySem.F.slot_int_eq (call_meets PySem.F.slot_int_eq (show s.TypeIs (.int i t) "int" from rfl) PySem.F.entry_int_eq (PySem.F.args_int_eq_2 _ _) (int_decl_inst i t a C dx sl) ⟨J.at_, rfl, rfl⟩) F.at_ F.fn fin
  | str i =>
    cases ht
    obtain ⟨t, rfl⟩ := (show ∃ t, v = Value.str i t from rx)
    exact eq_left hu I.kIn J (T := "str") rfl (hm _ hmem) PySem.F.slot_str_eq (call_meets PySem.F.slot_str_eq (show s.TypeIs (.str i t) "str" from rfl) PySem.F.entry_str_eq (PySem.F.args_str_eq_2 _ _) (str_decl_inst i t a C dx sl) ⟨J.at_, rfl, rfl⟩) F.at_ F.fn fin
  | ref b =>
    cases (show v = Value.ref b from rx)
    rcases ht with ⟨_, h, rfl⟩ | ⟨_, h, rfl⟩ | ⟨h, rfl⟩
    · obtain ⟨its, rv, ⟨o, n, ho, hc, _, hd⟩, _⟩ := I.list h
      have hT : s.TypeIs (.ref b) "list" := ⟨o, ho, hc⟩
      exact eq_left hu I.kIn J hT (hm _ hmem) PySem.F.slot_list_eq (decl_call PySem.F.slot_list_eq hT PySem.F.entry_list_eq (PySem.F.args_list_eq_2 _ _) fun _ _ => list_decl (isI _ hmem)) F.at_ F.fn fin
    · obtain ⟨its, rv, ⟨o, ho, hc, n, hd⟩, _⟩ := I.tuple h
      have hT : s.TypeIs (.ref b) "tuple" := ⟨o, ho, hc⟩
      exact eq_left hu I.kIn J hT (hm _ hmem) PySem.F.slot_tuple_eq (decl_call PySem.F.slot_tuple_eq hT PySem.F.entry_tuple_eq (PySem.F.args_tuple_eq_2 _ _) fun _ _ => tuple_decl (isI _ hmem)) F.at_ F.fn fin
    · obtain ⟨_, hsm, vs', kv, o, es, ep, ho, hx, hd, _⟩ := dk_of I.hok h
      have hT : s.TypeIs (.ref b) "dict" := ⟨o, ho, hx.1⟩
      exact eq_left hu I.kIn J hT (hm _ hmem) PySem.F.slot_dict_eq (decl_call PySem.F.slot_dict_eq hT PySem.F.entry_dict_eq (PySem.F.args_dict_eq_2 _ _) fun _ _ => dict_decl hT (isI _ hmem)) F.at_ F.fn fin
  | _ => exact ht.elim
end
end Qi
namespace Qi
open PySem PySem.Spec L2 PyProof.Rows
theorem RD.ty {w : Wo} {n : Nat} {d : D} {v : V} (h : RD w d v) (k : okr n d = true) : ∃ T, TyV w.K.K w.H v T := by
  cases h with
  | non => exact ⟨_, rfl⟩
  | bl b => exact ⟨_, rfl⟩
  | int i => exact ⟨_, rfl⟩
  | str x => exact ⟨_, rfl⟩
  | tup h f l r => exact ⟨_, .inr (.inl ⟨_, .inl h, rfl⟩)⟩
  | tupK h l r => exact ⟨_, .inr (.inl ⟨_, sqT_K h, rfl⟩)⟩
  | lst h f l r => exact ⟨_, .inl ⟨_, .of h, rfl⟩⟩
  | dic0 h f => exact ⟨_, .inr (.inr ⟨h, rfl⟩)⟩
  | _ => cases n <;> simp [okr] at k
def eqN (neg : Bool) (r : Res D) : Res D := r.nox.bind fun z S2 => (match z with
  | .bl k => .ok (.bl (if neg = true then !k else k)) S2
  | _ => .stuck)
def eqX (cf : Cf) (f cn : Nat) (neg : Bool) (d e : D) (S : Sto) : Res D := match d, e with
  | .obj c fs, .obj c' fs' => if c = cn ∧ c' = cn then eqN neg (cf f [.obj c fs, .obj c' fs'] S) else .stuck
  | .obj c fs, e => if c = cn ∧ okr 64 e = true then eqN neg (cf f [.obj c fs, e] S) else .stuck
  | d, .obj c fs => if neg = false ∧ c = cn ∧ okr 64 d = true then eqN neg (cf f [.obj c fs, d] S) else .stuck
  | d, e => if neg = true then oNe (rsv S d) (rsv S e) S else oEq (rsv S d) (rsv S e) S
def xEqX (cf : Cf) (f cn : Nat) (neg : Bool) (ma mb : Ex) : Ex := fun σ S => (ma σ S).bind fun d S1 => (mb σ S1).bind fun e S2 => eqX cf f cn neg d e S2
section
variable {X : Cx} {Z : Env1} {a b : Expr} {ma mb : Ex} {pos : Pos} {cf : Cf} {f cn k : Nat} {fa : Addr}
theorem l2_eqX {cf : Cf} {f cn : Nat} (neg : Bool) {r1 r2 r3 r4 : R2} (hK : Z.K.K = X.K) (h1 : ∀ {g : Gd} {j : Nat → Addr} {σ : Sl} {S : Sto} {σV : L2.St} {H : Hp} {x y : V} {d e : D} {Q : VK}, RelZ Z g j σ S σV H → RL (wz Z g j σ S σV H) d x → RL (wz Z g j σ S σV H) e y → OutR Z g j σ S σV H RD Q (if neg = true then oNe d e S else oEq d e S) → r1 x y H Q)
    (h2 : ∀ {g : Gd} {j : Nat → Addr} {σ : Sl} {S : Sto} {σV : L2.St} {H : Hp} {x y : V} {fs fs' : List D} {Q : VK}, RelZ Z g j σ S σV H → RD (wz Z g j σ S σV H) (.obj cn fs) x → RD (wz Z g j σ S σV H) (.obj cn fs') y → OutR Z g j σ S σV H RD Q (eqN neg (cf f [.obj cn fs, .obj cn fs'] S)) → r2 x y H Q)
    (h3 : ∀ {g : Gd} {j : Nat → Addr} {σ : Sl} {S : Sto} {σV : L2.St} {H : Hp} {x y : V} {fs : List D} {e : D} {Q : VK}, RelZ Z g j σ S σV H → RD (wz Z g j σ S σV H) (.obj cn fs) x → RD (wz Z g j σ S σV H) e y → okr 64 e = true → OutR Z g j σ S σV H RD Q (eqN neg (cf f [.obj cn fs, e] S)) → r3 x y H Q)
    (h4 : ∀ {g : Gd} {j : Nat → Addr} {σ : Sl} {S : Sto} {σV : L2.St} {H : Hp} {x y : V} {fs : List D} {d : D} {Q : VK}, neg = false → RelZ Z g j σ S σV H → RD (wz Z g j σ S σV H) d x → RD (wz Z g j σ S σV H) (.obj cn fs) y → okr 64 d = true → OutR Z g j σ S σV H RD Q (eqN neg (cf f [.obj cn fs, d] S)) → r4 x y H Q)
    {σV : L2.St} {H : Hp} {Q : VK} (h : lE Z (xEqX cf f cn neg ma mb) σV H Q) : tOp (fun x y H Q => ((r1 x y H Q ∨ r2 x y H Q) ∨ r3 x y H Q) ∨ r4 x y H Q) (lE Z ma) (lE Z mb) σV H Q := by
  obtain ⟨g, j, σ, S, R, h⟩ := h
  refine ⟨g, j, σ, S, R, OutR.bind (fun d S1 j1 v H1 R1 s1 rd h1' => ⟨g, j1, σ, S1, R1, OutR.bind (fun e S2 j2 u H2 R2 s2 re h2' => ?_) h1'⟩) h⟩
  have rd := rd.mono s2.wle
  unfold eqX at h2'
  split at h2'
  · rename_i c fs c' fs' _
    by_cases hc : c = cn ∧ c' = cn
    · rw [if_pos hc] at h2'
      obtain ⟨rfl, rfl⟩ := hc
      exact .inl (.inl (.inr (h2 R2 rd re h2')))
    · rw [if_neg hc] at h2'; exact h2'.elim
  · rename_i c fs _ _
    by_cases hc : c = cn ∧ okr 64 e = true
    · rw [if_pos hc] at h2'
      obtain ⟨rfl, ho⟩ := hc
      exact .inl (.inr (h3 R2 rd re ho h2'))
    · rw [if_neg hc] at h2'; exact h2'.elim
  · rename_i c fs _
    by_cases hc : neg = false ∧ c = cn ∧ okr 64 d = true
    · rw [if_pos hc] at h2'
      obtain ⟨hn, rfl, ho⟩ := hc
      exact .inr (h4 hn R2 rd re ho h2')
    · rw [if_neg hc] at h2'; exact h2'.elim
  · exact .inl (.inl (.inl (h1 R2 (RB.rsv R2 (.inl rd)) (RB.rsv R2 (.inl re)) h2')))
theorem eqX2 {g : Gd} {j : Nat → Addr} {σ : Sl} {S : Sto} {σV : L2.St} {H : Hp} {x y : V} {fs fs' : List D} {Q : VK} (R : RelZ Z g j σ S σV H) (rd : RD (wz Z g j σ S σV H) (.obj cn fs) x) (re : RD (wz Z g j σ S σV H) (.obj cn fs') y) (h : OutR Z g j σ S σV H RD Q (eqN false (cf f [.obj cn fs, .obj cn fs'] S))) : SlX.rOwn X.K (Z.K.cl cn) (CallSp Z.K cf f 2) noE x y H Q := eq2 R rd re h
theorem neX2 {g : Gd} {j : Nat → Addr} {σ : Sl} {S : Sto} {σV : L2.St} {H : Hp} {x y : V} {fs fs' : List D} {Q : VK} (R : RelZ Z g j σ S σV H) (rd : RD (wz Z g j σ S σV H) (.obj cn fs) x) (re : RD (wz Z g j σ S σV H) (.obj cn fs') y) (h : OutR Z g j σ S σV H RD Q (eqN true (cf f [.obj cn fs, .obj cn fs'] S))) : ∃ a dx vs b dy ws, x = .ref a ∧ y = .ref b ∧ SlX.Slt H a (Z.K.cl cn) dx vs ∧ SlX.Slt H b (Z.K.cl cn) dy ws ∧ CallSp Z.K cf f 2 [x, y] H (fun z H' => ∃ q, z = .bl q ∧ Q (.bl (!q)) H') noE := ne2 R rd re h
theorem eqX3 {g : Gd} {j : Nat → Addr} {σ : Sl} {S : Sto} {σV : L2.St} {H : Hp} {x y : V} {fs : List D} {e : D} {Q : VK} (hK : Z.K.K = X.K) (R : RelZ Z g j σ S σV H) (rd : RD (wz Z g j σ S σV H) (.obj cn fs) x) (re : RD (wz Z g j σ S σV H) e y) (ho : okr 64 e = true) (h : OutR Z g j σ S σV H RD Q (eqN false (cf f [.obj cn fs, e] S))) :
    ∃ a dx vs T, x = .ref a ∧ SlX.Slt H a (Z.K.cl cn) dx vs ∧ TyV X.K H y T ∧ CallSp Z.K cf f 2 [x, y] H Q noE := by
  obtain ⟨a, dx, vs, rfl, hs, r⟩ := rd.of_obj
  obtain ⟨T, ht⟩ := re.ty ho
  refine ⟨a, dx, vs.map some, T, rfl, hs, hK ▸ ht, callSp_nox R (.cons rd (.cons re .nil)) rfl (OutR.bind (fun z S2 j2 zv H2 R2 s2 rz h2 => ?_) h)⟩
  cases z with
  | bl k => exact h2 j2 zv H2 R2 Stp.refl rz
  | _ => exact h2.elim
theorem neX3 {g : Gd} {j : Nat → Addr} {σ : Sl} {S : Sto} {σV : L2.St} {H : Hp} {x y : V} {fs : List D} {e : D} {Q : VK} (hK : Z.K.K = X.K) (R : RelZ Z g j σ S σV H) (rd : RD (wz Z g j σ S σV H) (.obj cn fs) x) (re : RD (wz Z g j σ S σV H) e y) (ho : okr 64 e = true) (h : OutR Z g j σ S σV H RD Q (eqN true (cf f [.obj cn fs, e] S))) :
    ∃ a dx vs T, x = .ref a ∧ SlX.Slt H a (Z.K.cl cn) dx vs ∧ TyV X.K H y T ∧ CallSp Z.K cf f 2 [x, y] H (fun z H' => ∃ q, z = .bl q ∧ Q (.bl (!q)) H') noE := by
  obtain ⟨a, dx, vs, rfl, hs, r⟩ := rd.of_obj
  obtain ⟨T, ht⟩ := re.ty ho
  refine ⟨a, dx, vs.map some, T, rfl, hs, hK ▸ ht, callSp_nox R (.cons rd (.cons re .nil)) rfl (OutR.bind (fun z S2 j2 zv H2 R2 s2 rz h2 => ?_) h)⟩
  cases z with
  | bl k => exact ⟨k, rz.of_bl, h2 j2 _ H2 R2 Stp.refl (.bl _)⟩
  | _ => exact h2.elim
theorem eqX4 {g : Gd} {j : Nat → Addr} {σ : Sl} {S : Sto} {σV : L2.St} {H : Hp} {x y : V} {fs : List D} {d : D} {Q : VK} (hK : Z.K.K = X.K) (R : RelZ Z g j σ S σV H) (rd : RD (wz Z g j σ S σV H) d x) (re : RD (wz Z g j σ S σV H) (.obj cn fs) y) (ho : okr 64 d = true) (h : OutR Z g j σ S σV H RD Q (eqN false (cf f [.obj cn fs, d] S))) :
    ∃ a dx vs T, y = .ref a ∧ SlX.Slt H a (Z.K.cl cn) dx vs ∧ TyV X.K H x T ∧ CallSp Z.K cf f 2 [y, x] H Q noE := by
  obtain ⟨a, dx, vs, rfl, hs, r⟩ := re.of_obj
  obtain ⟨T, ht⟩ := rd.ty ho
  refine ⟨a, dx, vs.map some, T, rfl, hs, hK ▸ ht, callSp_nox R (.cons re (.cons rd .nil)) rfl (OutR.bind (fun z S2 j2 zv H2 R2 s2 rz h2 => ?_) h)⟩
  cases z with
  | bl k => exact h2 j2 zv H2 R2 Stp.refl rz
  | _ => exact h2.elim
theorem de_eqX (F : OwnF X Z.K (Z.K.cl cn) cf k "__eq__" fa f 2) (hn : natB X.K (Z.K.cl cn) = true) (hl : leftB X.K (Z.K.cl cn) = true) (hr : Room (k + 5) X.A) (ha : DE X Z a ma) (hb : DE X Z b mb) (hm : behindInMarks .Eq b = false) (hK : Z.K.K = X.K := by rfl) : DE X Z (.Compare a [.Eq] [b] pos) (xEqX cf f cn false ma mb) :=
  PE.imp (pe_cmpR (OpR.or (OpR.or (OpR.or (op_eqE (by have := hr.un; omega)) (SlX.op_own (op := .Eq) (fun _ _ => rfl) F.at_ F.fn F.ok (hr.mono (by omega)) passNo)) (op_eqOwnT F hn (hr.mono (by omega)))) (op_eqOwnL F hl (hr.mono (by omega)))) ha hb hm) fun σV H Q h => l2_eqX false hK (eq1 hK) eqX2 (eqX3 hK) (fun _ => eqX4 hK) h
theorem de_neX (F : OwnF X Z.K (Z.K.cl cn) cf k "__eq__" fa f 2) (hne : PySem.W.findIn X.K (.ref (Z.K.cl cn)) "__ne__" = some (some (.builtin "object.__ne__"))) (hmo : PySem.W.mroIn X.K (Z.K.cl cn) (.type "object") = some true) (hn : natB X.K (Z.K.cl cn) = true) (hr : Room (k + 5) X.A) (ha : DE X Z a ma) (hb : DE X Z b mb) (hm : behindInMarks .NotEq b = false) (hK : Z.K.K = X.K := by rfl) : DE X Z (.Compare a [.NotEq] [b] pos) (xEqX cf f cn true ma mb) :=
  PE.imp (pe_cmpR (OpR.or (OpR.or (OpR.or (op_neE (by have := hr.un; omega)) (op_neOwn F hne hmo (hr.mono (by omega)))) (op_neOwnT F hne hmo hn (hr.mono (by omega)))) (r' := fun _ _ _ _ => False) (fun _ _ _ _ _ _ _ _ _ _ _ _ h => h.elim)) ha hb hm) fun σV H Q h => l2_eqX true hK (ne1 hK) neX2 (neX3 hK) (fun z => nomatch z) h
end
end Qi
namespace Qi
open PySem PySem.Spec L2 PyProof.Rows
def xStuck : Ex := fun _ _ => .stuck
def tStuck : Ts := fun _ _ => .stuck
def aStuck : Ag := fun _ _ => .stuck
@[inline] def Res.alt {α : Type} (r r' : Res α) : Res α := match r with
  | .stuck => r'
  | r => r
def alt {α : Type} (m n : Sl → Sto → Res α) : Sl → Sto → Res α := fun σ S => (m σ S).alt (n σ S)
theorem alt_stuck {α : Type} {m n : Sl → Sto → Res α} {σ : Sl} {S : Sto} (h : m σ S = .stuck) : alt m n σ S = n σ S := by unfold alt; rw [h]; rfl
theorem alt_ok {α : Type} {m n : Sl → Sto → Res α} {σ : Sl} {S S' : Sto} {a : α} (h : m σ S = .ok a S') : alt m n σ S = .ok a S' := by unfold alt; rw [h]; rfl
theorem alt_or {α : Type} {m n : Sl → Sto → Res α} (σ : Sl) (S : Sto) : alt m n σ S = m σ S ∨ alt m n σ S = n σ S := by
  unfold alt
  cases m σ S with
  | stuck => exact .inr rfl
  | ok _ _ => exact .inl rfl
  | exc _ _ => exact .inl rfl
section
variable {X : Cx} {Z : Env1} {e tg : Expr} {es : List Expr} {st : Stmt} {sts : List Stmt}
theorem de_stuck : DE X Z e xStuck := ⟨fun _ _ _ _ _ _ ⟨_, _, _, _, _, h⟩ => h.elim⟩
theorem db_stuck : DB X Z e xStuck := ⟨fun _ _ _ _ _ _ ⟨_, _, _, _, _, h⟩ => h.elim⟩
theorem df_stuck : DF X Z e xStuck := ⟨fun _ _ _ _ _ _ ⟨_, _, _, _, _, h⟩ => h.elim⟩
theorem dt_stuck : DT X Z e tStuck := ⟨fun _ _ _ _ _ _ ⟨_, _, _, _, _, h⟩ => h.elim⟩
theorem dw_stuck : DW X Z e tStuck := ⟨fun _ _ _ _ _ _ _ ⟨_, _, _, _, _, h⟩ => h.elim⟩
theorem da_stuck : DA X Z es aStuck := ⟨fun _ _ _ _ _ _ _ ⟨_, _, _, _, _, h⟩ => h.elim⟩
theorem di_stuck : DI X Z tg e aStuck := ⟨fun _ _ _ _ _ _ ⟨_, _, _, _, _, h⟩ => h.elim⟩
theorem dss_stuck : DSs X Z sts cStuck := ⟨fun _ _ _ _ _ _ ⟨_, _, _, _, _, h⟩ => h.elim⟩
theorem de_alt {m n : Ex} (h : DE X Z e m) (h' : DE X Z e n) : DE X Z e (alt m n) := ⟨fun pins s σ H Q I ⟨g, j, τ, S, R, q⟩ => by
  rcases alt_or (m := m) (n := n) τ S with z | z
  · rw [z] at q; exact h.run pins s σ H Q I ⟨g, j, τ, S, R, q⟩
  · rw [z] at q; exact h'.run pins s σ H Q I ⟨g, j, τ, S, R, q⟩⟩
theorem ds_alt {m n : Co} (h : DS X Z st m) (h' : DS X Z st n) : DS X Z st (alt m n) := ⟨fun pins s σ H Q I ⟨g, j, τ, S, R, q⟩ => by
  rcases alt_or (m := m) (n := n) τ S with z | z
  · rw [z] at q; exact h.run pins s σ H Q I ⟨g, j, τ, S, R, q⟩
  · rw [z] at q; exact h'.run pins s σ H Q I ⟨g, j, τ, S, R, q⟩⟩
end
def xVB (i : Nat) : Ex := fun σ S => match σ[i]? with
  | some (some (.lst l)) => .ok (.lst l) S
  | some (some (.clo 1 [.lst l])) => .ok (.lst l) S
  | _ => .stuck
theorem db_vb {X : Cx} {Z : Env1} {e : Expr} {i : Nat} (h : PE X e (tVar i)) (hl : Z.lin i = true) : DB X Z e (xVB i) := PE.imp (t := tVar i) h fun σV H Q => by
  rintro ⟨g, j, σ, S, R, h⟩
  unfold xVB at h
  split at h
  · rename_i l e1
    obtain ⟨v, ev, h1, h2⟩ := R.slots i _ e1
    refine ⟨v, ev, h j v H R Stp.refl (.inr ?_)⟩
    have hv := h2 hl
    cases hv with
    | lst hh l r => exact ⟨_, _, _, rfl, rfl, hh, l, r, fun n hn => R.lc i _ n ⟨hl, ⟨_, e1, rfl⟩, ev⟩ hn⟩
  · rename_i l e1
    obtain ⟨v, ev, _, h2⟩ := R.slots i _ e1
    cases h2 hl with
    | frz r => exact ⟨v, ev, h j v H R Stp.refl (.inl r)⟩
  · exact h.elim
structure FnE where
  name : Str
  f : Nat
  np : Nat
  g : Bool
/-- a class with slots and an __init__ -/
structure ClE where
  name : Str
  cn : Nat
  flds : List (Str × Nat)
  props : List (Str × Nat)
  fInit : Nat
  npInit : Nat
  fLen : Nat
  fEq : Nat
  meths : List (Str × Nat × Nat)
/-- a def that calls what it is handed, and catches -/
structure HdE where
  name : Str
  f : Nat
  ls : Bool
structure Gx where
  mod : List Str
  fns : List FnE
  ks : List (Str × D)
  cls : List ClE
  exs : List ExE
  hds : List HdE
  isE : List (Str × List (Nat × Bool))
  isB : List (String × List (Nat × Bool))
  cf : Cf
def Gx.exB (G : Gx) (c : Nat) : Bool := G.exs.any fun E => decide (E.cn = c)
structure Cc where
  N : List Str
  sc : Scope
  ls : List Nat
  gd : Bool
  own : Str → Bool
  bx : List (Nat × Nat)
  fz : List (Nat × Nat)
  lm : Bool
  big : Bool
  xq : Bool
def Cc.lin (C : Cc) : Nat → Bool := fun i => C.ls.contains i
def Cc.vis (C : Cc) (x : Str) : Bool := match C.sc.names.lookup x with
  | some .local => true
  | some .cell => true
  | some .free => true
  | _ => false
def Cc.loc (C : Cc) (x : Str) : Bool := match C.sc.names.lookup x with
  | some .local => true
  | some .cell => true
  | _ => false
def Cc.glb (C : Cc) (x : Str) : Bool := match C.sc.names.lookup x with
  | some .globalImplicit => true
  | _ => false
def Cc.isL (C : Cc) (x : Str) : Bool := match C.sc.names.lookup x with
  | some .local => true
  | _ => false
def nmOk (x : Str) : Bool := !(x == ("__debug__" : Str)) && !(x == ("__classdict__" : Str))
def Cc.ix (C : Cc) (x : Str) : Option Nat := C.N.findIdx? fun y => decide (y = x)
def Cc.slot (C : Cc) (x : Str) : Option Nat := if (C.vis x && nmOk x) = true then C.ix x else none
def Cc.st (C : Cc) (x : Str) : Option Nat := if (C.loc x && (C.own x || C.isL x)) = true then C.ix x else none
structure ClOk (G : Gx) (k : Nat) (P : Program) (w : World) (K : Kx) (mg : Str → Option Value) (base : Heap) (E : ClE) : Prop where
  at_ : mg E.name = some (.ref (K.cl E.cn))
  kp : PySem.W.keepIn K.K (.ref (K.cl E.cn)) = true
  sc : SlX.SCls K.K (K.cl E.cn)
  isc : IsC K.K (K.cl E.cn)
  fld : ∀ p ∈ E.flds, ∃ q, SlX.Slot1 K.K (K.cl E.cn) p.1 q p.2
  prop : ∀ p ∈ E.props, ∃ fa q, PySem.W.findIn K.K (.ref (K.cl E.cn)) p.1 = some (some (.ref q)) ∧ PySem.W.specialIn K.K (.ref q) "__get__" = some (some (.builtin "property.__get__")) ∧ PySem.W.takesIn K.K (.ref q) = some true ∧ (∃ rest, PySem.W.recIn K.K q "property" = some (.ref fa :: rest)) ∧
    FnR P w K.K mg base (L2.CX P w) (7 * k) fa (CallSp K G.cf p.2 1)
  init : ∃ fa fd ps, Mk K.K (K.cl E.cn) fa ∧ FnOk P w K.K mg base (L2.CX P w) (7 * k) fa fd ps (InitSp K (K.cl E.cn) G.cf E.fInit E.npInit) ∧ Binds K.K fd ps []
  len : ∃ fa, PySem.W.findIn K.K (.ref (K.cl E.cn)) "__len__" = some (some (.ref fa)) ∧ PySem.W.isFn K.K (.ref fa) = true ∧ FnR P w K.K mg base (L2.CX P w) (7 * k) fa (CallSp K G.cf E.fLen 1)
  eq : ∃ fa, PySem.W.findIn K.K (.ref (K.cl E.cn)) "__eq__" = some (some (.ref fa)) ∧ PySem.W.isFn K.K (.ref fa) = true ∧ FnR P w K.K mg base (L2.CX P w) (7 * k) fa (CallSp K G.cf E.fEq 2)
  ne : PySem.W.findIn K.K (.ref (K.cl E.cn)) "__ne__" = some (some (.builtin "object.__ne__"))
  meth : ∀ p ∈ E.meths, ∃ fa, Meth K.K (K.cl E.cn) p.1 fa ∧ FnR P w K.K mg base (L2.CX P w) (7 * k) fa (CallSp K G.cf p.2.1 p.2.2)
  mo : PySem.W.mroIn K.K (K.cl E.cn) (.type "object") = some true
  nat : natB K.K (K.cl E.cn) = true
  lft : leftB K.K (K.cl E.cn) = true
structure FnF (G : Gx) (k : Nat) (P : Program) (w : World) (K : Kx) (mg : Str → Option Value) (base : Heap) (E : FnE) : Prop where
  ex : ∃ fa fd ps, mg E.name = some (.ref fa) ∧ PySem.W.keepIn K.K (.ref fa) = true ∧ Binds K.K fd ps [] ∧ FnG P w K.K mg base (L2.CX P w) (7 * k) fa fd ps (CallSp K G.cf E.f E.np) ∧ (E.g = false → FnOk P w K.K mg base (L2.CX P w) (7 * k) fa fd ps (CallSp K G.cf E.f E.np))
/-- the built-ins that are looked at -/
def BLT : List Str := ["len", "list", "tuple", "int", "bool", "str", "dict", "range", "enumerate", "sorted", "set", "sum", "min", "max", "all", "any", "isinstance", "repr", "zip", "super", "ValueError", "OverflowError"]
structure HdF (G : Gx) (k : Nat) (P : Program) (w : World) (K : Kx) (mg : Str → Option Value) (base : Heap) (E : HdE) : Prop where
  ex : ∃ (a : Str) (ga : Addr) (pg : Arguments) (bg : List Stmt) (sg : Scope) (dV kV doc pm cdv ctt oc : Value) (an od : Option Addr) (osl : Array (Option Value)) (Ng : List Str), mg E.name = some (.ref ga) ∧ PySem.W.keepIn K.K (.ref ga) = true ∧ K.K.lookup ga = some ⟨oc, od, .func (PySem.W.fnOf E.name E.name pg bg sg dV kV doc pm an cdv ctt), osl⟩ ∧ PySem.W.codeIn K.K cdv E.name = true ∧
    L2.Binds K.K (PySem.W.fnOf E.name E.name pg bg sg dV kV doc pm an cdv ctt) [a] [] ∧ FnScope Ng [a] sg ∧ Ng[0]? = some a ∧ Vis sg a ∧ (a == ("__debug__" : Str)) = false ∧ (a == ("__classdict__" : Str)) = false ∧ HdOk P w K mg base (7 * k + 4) Ng E.name sg ga cdv a bg G.cf E.f E.ls G.exB
structure GOk (G : Gx) (k : Nat) (P : Program) (w : World) (K : Kx) (mg : Str → Option Value) (base : Heap) : Prop where
  blt : ∀ x, BLT.contains x = true → G.mod.contains x = false → mg x = none
  fns : ∀ E ∈ G.fns, FnF G k P w K mg base E
  ks : ∀ p ∈ G.ks, ∃ v u, mg p.1 = some u ∧ RelV v u ∧ ∀ w' : Wo, w'.K.K = K.K → RD w' p.2 v
  cls : ∀ E ∈ G.cls, ClOk G k P w K mg base E
  exs : ∀ E ∈ G.exs, ExOk P K.K mg (K.cl E.cn) E
  hds : ∀ E ∈ G.hds, HdF G k P w K mg base E
  isE : ∀ p ∈ G.isE, ∃ C, mg p.1 = some (.ref C) ∧ ∀ q ∈ p.2, ExcI K.K (K.cl q.1) ∧ PySem.W.kitOne K.K (.ref (K.cl q.1)) (.ref C) = some q.2
  isB : ∀ p ∈ G.isB, ∀ q ∈ p.2, ExcI K.K (K.cl q.1) ∧ PySem.W.kitOne K.K (.ref (K.cl q.1)) (.type p.1) = some q.2
  md : modB K.K = true
structure OkX (G : Gx) (k : Nat) (C : Cc) (X : Cx) (Z : Env1) : Prop where
  hN : X.N = C.N
  sc : X.env.scope = C.sc
  nd : X.N.Nodup
  calm : X.calm = true
  hK : Z.K.K = X.K
  lin : Z.lin = C.lin
  tk : Takes X Z.W
  room : Room (7 * k + 3) X.A
  room5 : C.big = true → Room (7 * k + 5) X.A
  lam : C.lm = true → LamF X Z ∧ Room (7 * k + 6) X.A
  gd : C.gd = true → X.A.guards = some []
  fn : ∀ x, C.own x = true → X.fn x = true
  g : GOk G k X.prog X.w Z.K X.mg X.base
section
variable {G : Gx} {k : Nat} {C : Cc} {X : Cx} {Z : Env1}
theorem OkX.vis (O : OkX G k C X Z) {x : Str} (h : C.vis x = true) : Vis X.env.scope x := by
  unfold Cc.vis at h
  unfold Vis
  rw [O.sc]
  split at h
  · rename_i e; exact .inl e
  · rename_i e; exact .inr (.inl e)
  · rename_i e; exact .inr (.inr e)
  · cases h
theorem OkX.loc (O : OkX G k C X Z) {x : Str} (h : C.loc x = true) : L2.Loc X.env.scope x := by
  unfold Cc.loc at h
  unfold L2.Loc
  rw [O.sc]
  split at h
  · rename_i e; exact .inl e
  · rename_i e; exact .inr e
  · cases h
theorem OkX.gl (O : OkX G k C X Z) {x : Str} (h : C.glb x = true) : Gl X x := by
  unfold Cc.glb at h
  show X.env.scope.names.lookup x = _
  rw [O.sc]
  split at h
  · rename_i e; exact e
  · cases h
theorem Cc.ix_get {x : Str} {i : Nat} (h : C.ix x = some i) : C.N[i]? = some x := by
  unfold Cc.ix at h
  rw [List.findIdx?_eq_some_iff_getElem] at h
  obtain ⟨hl, h1, _⟩ := h
  rw [List.getElem?_eq_getElem hl, of_decide_eq_true h1]
theorem OkX.at_ (O : OkX G k C X Z) {x : Str} {i : Nat} (h : C.ix x = some i) : X.N[i]? = some x := by rw [O.hN]; exact C.ix_get h
theorem OkX.var (O : OkX G k C X Z) {x : Str} {i : Nat} {pos : Pos} (h : C.slot x = some i) : PE X (.Name x pos) (tVar i) := by
  unfold Cc.slot at h
  split at h
  · rename_i hv
    simp only [nmOk, Bool.and_eq_true, Bool.not_eq_true'] at hv
    exact pe_var (O.at_ h) (O.vis hv.1) hv.2.1 hv.2.2
  · cases h
theorem OkX.isL (O : OkX G k C X Z) {x : Str} (h : C.isL x = true) : X.env.scope.names.lookup x = some .local := by
  unfold Cc.isL at h
  rw [O.sc]
  split at h
  · rename_i e; exact e
  · cases h
theorem OkX.st (O : OkX G k C X Z) {x : Str} {i : Nat} (h : C.st x = some i) : X.N[i]? = some x ∧ L2.Loc X.env.scope x ∧ (X.fn x = true ∨ X.env.scope.names.lookup x = some .local) := by
  unfold Cc.st at h
  split at h
  · rename_i hv
    simp only [Bool.and_eq_true, Bool.or_eq_true] at hv
    exact ⟨O.at_ h, O.loc hv.1, hv.2.imp (O.fn x) O.isL⟩
  · cases h
theorem OkX.linE (O : OkX G k C X Z) {i : Nat} {b : Bool} (h : C.lin i = b) : Z.lin i = b := by rw [O.lin]; exact h
theorem OkX.blt (O : OkX G k C X Z) {x : Str} (h : G.mod.contains x = false) (hx : BLT.contains x = true := by decide +kernel) : X.mg x = none := O.g.blt x hx h
theorem OkX.un (O : OkX G k C X Z) : X.A.units + 200 < cLine := by have := O.room.un; omega
end
/-- a name -/
def cNm (G : Gx) (C : Cc) (x : Str) : Ex := match C.slot x with
  | some i => if C.lin i = true then xVF i else xV i
  | none => match G.ks.find? fun p => decide (p.1 = x) with
    | some p => if (C.glb x && nmOk x) = true then xC p.2 else xStuck
    | none => xStuck
theorem de_nm {G : Gx} {k : Nat} {C : Cc} {X : Cx} {Z : Env1} {x : Str} {pos : Pos} (O : OkX G k C X Z) : DE X Z (.Name x pos) (cNm G C x) := by
  unfold cNm
  split
  · rename_i i hi
    split
    · rename_i hl; exact de_vf (O.var hi) (O.linE hl)
    · rename_i hl; exact de_v (O.var hi) (O.linE (by simpa using hl))
  · split
    · rename_i p hp
      split
      · rename_i hg
        simp only [nmOk, Bool.and_eq_true, Bool.not_eq_true'] at hg
        have hx : p.1 = x := by have z := List.find?_some hp; simpa using z
        obtain ⟨v, u, h1, h2, h3⟩ := O.g.ks p (List.mem_of_find?_eq_some hp)
        rw [hx] at h1
        have hpe : PE X (.Name x pos) (tC v) := pe_glob (O.gl hg.1) h1 h2 hg.2.1
        refine PE.imp hpe fun σV H Q => ?_
        rintro ⟨g, j, σ, S, R, q⟩
        exact q j v H R Stp.refl (h3 _ rfl)
      · exact de_stuck
    · exact de_stuck
def cNmB (G : Gx) (C : Cc) (x : Str) : Ex := match C.slot x with
  | some i => if C.lin i = true then xVB i else xV i
  | none => cNm G C x
theorem db_nm {G : Gx} {k : Nat} {C : Cc} {X : Cx} {Z : Env1} {x : Str} {pos : Pos} (O : OkX G k C X Z) : DB X Z (.Name x pos) (cNmB G C x) := by
  unfold cNmB
  split
  · rename_i i hi
    split
    · rename_i hl; exact db_vb (O.var hi) (O.linE hl)
    · rename_i hl; exact de_db (de_v (O.var hi) (O.linE (by simpa using hl)))
  · exact de_db (de_nm O)
end Qi
namespace Qi
open PySem PySem.Spec L2 PyProof.Rows
def IsL (m : Ex) : Prop := ∀ σ S d S', m σ S = .ok d S' → ∃ ds, d = .lst ds
theorem stuck_lst : IsL xStuck := fun σ S d S' h => by cases h
structure CF where
  e : Cc → Expr → Ex
  b : Cc → Expr → Ex
  f : Cc → Expr → Ex
  t : Cc → Expr → Ts
  w : Cc → Expr → Ts
  a : Cc → List Expr → Ag
  i : Cc → Expr → Expr → Ag
structure Snd (G : Gx) (k : Nat) (F : CF) : Prop where
  e : ∀ {C X Z}, OkX G k C X Z → ∀ e, DE X Z e (F.e C e)
  b : ∀ {C X Z}, OkX G k C X Z → ∀ e, DB X Z e (F.b C e)
  f : ∀ {C X Z}, OkX G k C X Z → ∀ e, DF X Z e (F.f C e)
  t : ∀ {C X Z}, OkX G k C X Z → ∀ e, DT X Z e (F.t C e)
  w : ∀ {C X Z}, OkX G k C X Z → ∀ e, DW X Z e (F.w C e)
  a : ∀ {C X Z}, OkX G k C X Z → ∀ es, DA X Z es (F.a C es)
  i : ∀ {C X Z}, OkX G k C X Z → ∀ tg e, DI X Z tg e (F.i C tg e)
  fl : ∀ C e, IsL (F.f C e)
def CF0 : CF := ⟨fun _ _ => xStuck, fun _ _ => xStuck, fun _ _ => xStuck, fun _ _ => tStuck, fun _ _ => tStuck, fun _ _ => aStuck, fun _ _ _ => aStuck⟩
theorem snd0 {G : Gx} {k : Nat} : Snd G k CF0 := ⟨fun _ _ => de_stuck, fun _ _ => db_stuck, fun _ _ => df_stuck, fun _ _ => dt_stuck, fun _ _ => dw_stuck, fun _ _ => da_stuck, fun _ _ _ => di_stuck, fun _ _ => stuck_lst⟩
def isStar : Expr → Bool
  | .Starred _ _ => true
  | _ => false
def isSlice : Expr → Bool
  | .Slice _ _ _ _ => true
  | _ => false
def isSetD : Expr → Bool
  | .Set _ _ _ => true
  | _ => false
def noStar : List Expr → Bool
  | [] => true
  | e :: es => !isStar e && noStar es
theorem star1 {e : Expr} {es : List Expr} {env : Env} (h : isStar e = false) : starEach (e :: es) env = (false, eval e env) :: starEach es env := by
  cases e <;> first | rfl | cases h
theorem star_any {env : Env} {pos : Pos} : ∀ {es : List Expr}, noStar es = true → (backTo pos (starEach es env)).any (·.1) = false
  | [], _ => rfl
  | e :: es, h => by
    simp only [noStar, Bool.and_eq_true, Bool.not_eq_true'] at h
    rw [star1 h.1]
    show (false || (backTo pos (starEach es env)).any (·.1)) = false
    rw [star_any h.2]; rfl
theorem behind_no {op : CmpOp} {b : Expr} (h : isSetD b = false) : behindInMarks op b = false := by
  cases b <;> first | rfl | cases h
theorem plain_ix {b : Expr} (h : isSlice b = false) : PlainIx b := by
  intro o i
  cases b <;> first | rfl | cases h
theorem no_sl {b : Expr} (h : isSlice b = false) : NoSl b := by
  intro o i
  cases b <;> first | rfl | cases h
/-- a test that is a value's truth -/
def plainT : Expr → Bool
  | .UnaryOp .Not _ _ => false
  | .BoolOp _ _ _ => false
  | .IfExp _ _ _ _ => false
  | .Compare _ _ _ _ => false
  | _ => true
theorem truth_of {e : Expr} {env : Env} (h : plainT e = true) : ∀ whole, isTrue e env whole = (do let v ← whole; standAt e.pos; holding [v] (truthy v)) := by
  intro whole
  cases e with
  | UnaryOp op x p => cases op <;> first | rfl | cases h
  | BoolOp _ _ _ => cases h
  | IfExp _ _ _ _ => cases h
  | Compare _ _ _ _ => cases h
  | _ => rfl
def cBin (op : Operator) (a b : Ex) : Ex := match op with
  | .Add => x2 oAdd a b
  | .Sub => x2 oSub a b
  | .Mult => x2 oMul a b
  | .FloorDiv => x2 oFdiv a b
  | .Mod => x2 oMod a b
  | .Pow => x2 oPow a b
  | _ => xStuck
section
variable {G : Gx} {k : Nat} {C : Cc} {X : Cx} {Z : Env1} {a b c e : Expr} {ma mb mc : Ex} {pos : Pos}
theorem de_bin {op : Operator} (O : OkX G k C X Z) (ha : DB X Z a ma) (hb : DB X Z b mb) : DE X Z (.BinOp a op b pos) (cBin op ma mb) := by
  cases op with
  | Add => exact de_op pr_add op_addA ha hb O.hK
  | Sub => exact de_op pr_sub op_sub ha hb O.hK
  | Mult => exact de_op pr_mul op_mulA ha hb O.hK
  | FloorDiv => exact de_op pr_fdiv op_fdiv ha hb O.hK
  | Mod => exact de_op pr_mod op_mod ha hb O.hK
  | Pow => exact de_op pr_pow op_pow ha hb O.hK
  | _ => exact de_stuck
/-- comparisons of data -/
def cCmp (op : CmpOp) (a b : Ex) : Ex := match op with
  | .Eq => x2 oEq a b
  | .NotEq => x2 oNe a b
  | .Lt => x2 oLt a b
  | .LtE => x2 oLe a b
  | .Gt => x2 oGt a b
  | .GtE => x2 oGe a b
  | .In => x2 (oIn false) a b
  | .NotIn => x2 (oIn true) a b
  | .Is => x2 oIsN a b
  | .IsNot => x2 oNotN a b
theorem de_cmpA {op : CmpOp} (O : OkX G k C X Z) (ha : DB X Z a ma) (hb : DB X Z b mb) (hs : isSetD b = false) : DE X Z (.Compare a [op] [b] pos) (cCmp op ma mb) := by
  have hu := O.un
  cases op with
  | Eq => exact de_cmp pr_eq (op_eqE (by omega)) ha hb (behind_no hs) O.hK
  | NotEq => exact de_cmp pr_ne (op_neE (by omega)) ha hb (behind_no hs) O.hK
  | Lt => exact de_cmp pr_lt op_lt ha hb (behind_no hs) O.hK
  | LtE => exact de_cmp pr_le op_le ha hb (behind_no hs) O.hK
  | Gt => exact de_cmp pr_gt op_gt ha hb (behind_no hs) O.hK
  | GtE => exact de_cmp pr_ge op_ge ha hb (behind_no hs) O.hK
  | In => exact de_cmp pr_in (op_inA (by omega)) ha hb (behind_no hs) O.hK
  | NotIn => exact de_cmp pr_notIn (op_notInA (by omega)) ha hb (behind_no hs) O.hK
  | Is => exact de_cmp pr_isN op_isA ha hb (behind_no hs) O.hK
  | IsNot => exact de_cmp pr_notN op_notA ha hb (behind_no hs) O.hK
theorem dt_cmpA {op : CmpOp} (O : OkX G k C X Z) (ha : DB X Z a ma) (hb : DB X Z b mb) (hs : isSetD b = false) : DT X Z (.Compare a [op] [b] pos) (tE (cCmp op ma mb)) := by
  have hu := O.un
  cases op with
  | Eq => exact dt_cmp pr_eq (op_eqE (by omega)) ha hb (behind_no hs) O.hK
  | NotEq => exact dt_cmp pr_ne (op_neE (by omega)) ha hb (behind_no hs) O.hK
  | Lt => exact dt_cmp pr_lt op_lt ha hb (behind_no hs) O.hK
  | LtE => exact dt_cmp pr_le op_le ha hb (behind_no hs) O.hK
  | Gt => exact dt_cmp pr_gt op_gt ha hb (behind_no hs) O.hK
  | GtE => exact dt_cmp pr_ge op_ge ha hb (behind_no hs) O.hK
  | In => exact dt_cmp pr_in (op_inA (by omega)) ha hb (behind_no hs) O.hK
  | NotIn => exact dt_cmp pr_notIn (op_notInA (by omega)) ha hb (behind_no hs) O.hK
  | Is => exact dt_cmp pr_isN op_isA ha hb (behind_no hs) O.hK
  | IsNot => exact dt_cmp pr_notN op_notA ha hb (behind_no hs) O.hK
/-- == and != where instances of own classes may stand -/
def cEqs (cf : Cf) (neg : Bool) (a b : Ex) : List ClE → Ex
  | [] => x2 (if neg then oNe else oEq) a b
  | E :: _ => x2 (eqA cf E.fEq E.cn neg) a b
theorem ClOk.ownEq {P : Program} {w : World} {K : Kx} {E : ClE} (h : ClOk G k X.prog X.w K X.mg X.base E) (hK : K.K = X.K) : ∃ fa, OwnF X K (K.cl E.cn) G.cf (7 * k) "__eq__" fa E.fEq 2 := by
  obtain ⟨fa, h1, h2, h3⟩ := h.eq
  exact ⟨fa, by rw [← hK]; exact h1, by rw [← hK]; exact h2, by rw [← hK]; exact h3⟩
theorem ClOk.ownLen {P : Program} {w : World} {K : Kx} {E : ClE} (h : ClOk G k X.prog X.w K X.mg X.base E) (hK : K.K = X.K) : ∃ fa, OwnF X K (K.cl E.cn) G.cf (7 * k) "__len__" fa E.fLen 1 := by
  obtain ⟨fa, h1, h2, h3⟩ := h.len
  exact ⟨fa, by rw [← hK]; exact h1, by rw [← hK]; exact h2, by rw [← hK]; exact h3⟩
theorem de_eqs (O : OkX G k C X Z) (hbig : C.big = true) (ha : DB X Z a ma) (hb : DB X Z b mb) (hs : isSetD b = false) : DE X Z (.Compare a [.Eq] [b] pos) (cEqs G.cf false ma mb G.cls) := by
  cases hc : G.cls with
  | nil => exact de_cmp pr_eq (op_eqE (by have := O.un; omega)) ha hb (behind_no hs) O.hK
  | cons E r =>
    have h := O.g.cls E (by rw [hc]; exact List.mem_cons_self)
    obtain ⟨fa, F⟩ := h.ownEq (P := X.prog) (w := X.w) O.hK
    exact de_eqA F ((O.room5 hbig).mono (by omega)) ha hb (behind_no hs) O.hK
theorem dt_eqs (O : OkX G k C X Z) (hbig : C.big = true) (ha : DB X Z a ma) (hb : DB X Z b mb) (hs : isSetD b = false) : DT X Z (.Compare a [.Eq] [b] pos) (tE (cEqs G.cf false ma mb G.cls)) := by
  cases hc : G.cls with
  | nil => exact dt_cmp pr_eq (op_eqE (by have := O.un; omega)) ha hb (behind_no hs) O.hK
  | cons E r =>
    have h := O.g.cls E (by rw [hc]; exact List.mem_cons_self)
    obtain ⟨fa, F⟩ := h.ownEq (P := X.prog) (w := X.w) O.hK
    exact dt_eqA F ((O.room5 hbig).mono (by omega)) ha hb (behind_no hs) O.hK
theorem de_nes (O : OkX G k C X Z) (hbig : C.big = true) (ha : DB X Z a ma) (hb : DB X Z b mb) (hs : isSetD b = false) : DE X Z (.Compare a [.NotEq] [b] pos) (cEqs G.cf true ma mb G.cls) := by
  cases hc : G.cls with
  | nil => exact de_cmp pr_ne (op_neE (by have := O.un; omega)) ha hb (behind_no hs) O.hK
  | cons E r =>
    have h := O.g.cls E (by rw [hc]; exact List.mem_cons_self)
    obtain ⟨fa, F⟩ := h.ownEq (P := X.prog) (w := X.w) O.hK
    exact de_neA F (by rw [← O.hK]; exact h.ne) (by rw [← O.hK]; exact h.mo) ((O.room5 hbig).mono (by omega)) ha hb (behind_no hs) O.hK
theorem dt_nes (O : OkX G k C X Z) (hbig : C.big = true) (ha : DB X Z a ma) (hb : DB X Z b mb) (hs : isSetD b = false) : DT X Z (.Compare a [.NotEq] [b] pos) (tE (cEqs G.cf true ma mb G.cls)) := by
  cases hc : G.cls with
  | nil => exact dt_cmp pr_ne (op_neE (by have := O.un; omega)) ha hb (behind_no hs) O.hK
  | cons E r =>
    have h := O.g.cls E (by rw [hc]; exact List.mem_cons_self)
    obtain ⟨fa, F⟩ := h.ownEq (P := X.prog) (w := X.w) O.hK
    exact dt_neA F (by rw [← O.hK]; exact h.ne) (by rw [← O.hK]; exact h.mo) ((O.room5 hbig).mono (by omega)) ha hb (behind_no hs) O.hK
def cCmpX (G : Gx) (op : CmpOp) (a b : Ex) : Ex := match op with
  | .Eq => cEqs G.cf false a b G.cls
  | .NotEq => cEqs G.cf true a b G.cls
  | op => cCmp op a b
def cCmpY (G : Gx) (C : Cc) (op : CmpOp) (a b : Ex) : Ex := if C.big = true then cCmpX G op a b else cCmp op a b
theorem de_cmpX {op : CmpOp} (O : OkX G k C X Z) (ha : DB X Z a ma) (hb : DB X Z b mb) (hs : isSetD b = false) : DE X Z (.Compare a [op] [b] pos) (cCmpY G C op ma mb) := by
  unfold cCmpY
  split
  case isFalse => exact de_cmpA O ha hb hs
  rename_i hbig
  cases op with
  | Eq => exact de_eqs O hbig ha hb hs
  | NotEq => exact de_nes O hbig ha hb hs
  | _ => exact de_cmpA O ha hb hs
/-- .. and where an instance may stand beside data -/
def xEqs (cf : Cf) (neg : Bool) (a b : Ex) : List ClE → Ex
  | [] => xStuck
  | E :: _ => xEqX cf E.fEq E.cn neg a b
def cEqZ (G : Gx) (op : CmpOp) (a b : Ex) : Ex := match op with
  | .Eq => xEqs G.cf false a b G.cls
  | .NotEq => xEqs G.cf true a b G.cls
  | _ => xStuck
theorem de_eqZ {op : CmpOp} {na nb : Ex} (O : OkX G k C X Z) (hbig : C.big = true) (ha : DE X Z a na) (hb : DE X Z b nb) (hs : isSetD b = false) : DE X Z (.Compare a [op] [b] pos) (cEqZ G op na nb) := by
  unfold cEqZ
  split
  · cases hc : G.cls with
    | nil => exact de_stuck
    | cons E r =>
      have h := O.g.cls E (by rw [hc]; exact List.mem_cons_self)
      obtain ⟨fa, F⟩ := h.ownEq (P := X.prog) (w := X.w) O.hK
      exact de_eqX F (by rw [← O.hK]; exact h.nat) (by rw [← O.hK]; exact h.lft) ((O.room5 hbig).mono (by omega)) ha hb (behind_no hs) O.hK
  · cases hc : G.cls with
    | nil => exact de_stuck
    | cons E r =>
      have h := O.g.cls E (by rw [hc]; exact List.mem_cons_self)
      obtain ⟨fa, F⟩ := h.ownEq (P := X.prog) (w := X.w) O.hK
      exact de_neX F (by rw [← O.hK]; exact h.ne) (by rw [← O.hK]; exact h.mo) (by rw [← O.hK]; exact h.nat) ((O.room5 hbig).mono (by omega)) ha hb (behind_no hs) O.hK
  · exact de_stuck
def cCmpZ (G : Gx) (C : Cc) (op : CmpOp) (a b a' b' : Ex) : Ex := if (C.xq && C.big) = true then alt (cCmpY G C op a b) (cEqZ G op a' b') else cCmpY G C op a b
theorem de_cmpZ {op : CmpOp} {na nb : Ex} (O : OkX G k C X Z) (ha : DB X Z a ma) (hb : DB X Z b mb) (ha' : DE X Z a na) (hb' : DE X Z b nb) (hs : isSetD b = false) : DE X Z (.Compare a [op] [b] pos) (cCmpZ G C op ma mb na nb) := by
  unfold cCmpZ
  split
  · rename_i h
    rw [Bool.and_eq_true] at h
    exact de_alt (de_cmpX O ha hb hs) (de_eqZ O h.2 ha' hb' hs)
  · exact de_cmpX O ha hb hs
theorem dt_cmpX {op : CmpOp} (O : OkX G k C X Z) (ha : DB X Z a ma) (hb : DB X Z b mb) (hs : isSetD b = false) : DT X Z (.Compare a [op] [b] pos) (tE (cCmpY G C op ma mb)) := by
  unfold cCmpY
  split
  case isFalse => exact dt_cmpA O ha hb hs
  rename_i hbig
  cases op with
  | Eq => exact dt_eqs O hbig ha hb hs
  | NotEq => exact dt_nes O hbig ha hb hs
  | _ => exact dt_cmpA O ha hb hs
end
end Qi
namespace Qi
open PySem PySem.Spec L2 PyProof.Rows
def tgN (C : Cc) : List Expr → Option (List Nat)
  | [] => some []
  | .Name x _ :: r => match C.st x, tgN C r with
    | some i, some is => some (i :: is)
    | _, _ => none
  | _ => none
def tgOf (C : Cc) : Expr → Option Tgt
  | .Name x _ => (C.st x).map .nm
  | .Tuple es _ _ => (tgN C es).map .tp
  | _ => none
section
variable {G : Gx} {k : Nat} {C : Cc} {X : Cx} {Z : Env1} {a b c e : Expr} {ma mb mc : Ex} {pos : Pos}
theorem tgN_each {env : Env} : ∀ {es : List Expr} {is : List Nat}, tgN C es = some is → (assignEach es env).length = is.length ∧ (assignEach es env).findIdx? (·.1) = none
  | [], is, h => by cases h; exact ⟨rfl, rfl⟩
  | e :: es, is, h => by
    cases e with
    | Name x p =>
      simp only [tgN] at h
      split at h
      · rename_i i is' _ h2
        cases h
        obtain ⟨h3, h4⟩ := tgN_each (env := env) h2
        refine ⟨?_, ?_⟩
        · show ((false, assign (.Name x p) env) :: assignEach es env).length = _
          rw [List.length_cons, List.length_cons, h3]
        · show ((false, assign (.Name x p) env) :: assignEach es env).findIdx? (·.1) = none
          rw [List.findIdx?_cons, h4]; rfl
      · cases h
    | _ => cases h
theorem pgs_of (O : OkX G k C X Z) : ∀ {es : List Expr} {is : List Nat}, tgN C es = some is → PGs X es (fun vs σ H Q => vs.length = is.length ∧ Q (setsV is vs σ) H)
  | [], is, h => by cases h; exact pgs_n
  | e :: es, is, h => by
    cases e with
    | Name x p =>
      simp only [tgN] at h
      split at h
      · rename_i i is' h1 h2
        cases h
        obtain ⟨q1, q2, q3⟩ := O.st h1
        exact pgs_c (pg_name O.nd q1 q2 q3) (pgs_of O h2) fun u v => pgs_cons u v
      · cases h
    | _ => cases h
theorem pg_of (O : OkX G k C X Z) {tg : Expr} {t : Tgt} (h : tgOf C tg = some t) : PG X tg (gT X.K t) := by
  unfold tgOf at h
  split at h
  · rename_i x p
    cases q : C.st x with
    | none => rw [q] at h; cases h
    | some i =>
      rw [q] at h
      cases h
      obtain ⟨q1, q2, q3⟩ := O.st q
      exact pg_name O.nd q1 q2 q3
  · rename_i es kk p
    cases q : tgN C es with
    | none => rw [q] at h; cases h
    | some is =>
      rw [q] at h
      cases h
      obtain ⟨h1, h2⟩ := tgN_each (env := X.env) q
      exact pgs_sets (pgs_of O q) O.calm is.length rfl (pg_tup O.calm (pgs_of O q) h1 h2)
  · cases h
def linOff (C : Cc) (is : List Nat) : Bool := is.all fun i => !C.lin i
theorem OkX.off (O : OkX G k C X Z) {is : List Nat} (h : linOff C is = true) : ∀ i ∈ is, Z.lin i = false := fun i hi => by
  have := List.all_eq_true.mp h i hi
  exact O.linE (by simpa using this)
end
structure B1 where
  name : Str
  f : D → Sto → Res D
def b1s : List B1 := [⟨"all", oAll⟩, ⟨"any", oAny⟩, ⟨"sum", oSum⟩, ⟨"min", oMinI⟩, ⟨"max", oMaxI⟩, ⟨"tuple", oTuple⟩, ⟨"int", oInt⟩]
def b1F : List B1 := [⟨"list", oList⟩, ⟨"sorted", oSortA⟩]
theorem x1_lst {f : D → Sto → Res D} (hf : ∀ d S d' S', f d S = .ok d' S' → ∃ ds, d' = .lst ds) {m : Ex} : ∀ σ S d S', x1 f m σ S = .ok d S' → ∃ ds, d = .lst ds := fun σ S d S' e => by
  unfold x1 at e
  cases q : m σ S with
  | ok x S1 => rw [q] at e; exact hf _ _ _ _ e
  | exc x S1 => rw [q] at e; cases e
  | stuck => rw [q] at e; cases e
section
variable {G : Gx} {k : Nat} {C : Cc} {X : Cx} {Z : Env1} {a b c e : Expr} {ma mb mc : Ex} {pos : Pos}
theorem b1_ok (O : OkX G k C X Z) {p : Pos} (ha : DB X Z e ma) (hs : isStar e = false) : ∀ B ∈ b1s, C.glb B.name = true → G.mod.contains B.name = false → DE X Z (.Call (.Name B.name p) [e] [] pos) (x1 B.f ma) := by
  intro B hB hg hm
  simp only [b1s, List.mem_cons, List.mem_nil_iff, or_false] at hB
  rcases hB with rfl | rfl | rfl | rfl | rfl | rfl | rfl
  · exact de_b1 pr_all (cr_all O.calm) (O.gl hg) (O.blt hm) (by decide +kernel) ha (by decide +kernel) (by decide +kernel) (star1 hs) O.hK
  · exact de_b1 pr_any (cr_any O.calm) (O.gl hg) (O.blt hm) (by decide +kernel) ha (by decide +kernel) (by decide +kernel) (star1 hs) O.hK
  · exact de_b1 pr_sum (cr_sum O.calm) (O.gl hg) (O.blt hm) (by decide +kernel) ha (by decide +kernel) (by decide +kernel) (star1 hs) O.hK
  · exact de_b1 pr_minI (cr_min O.calm) (O.gl hg) (O.blt hm) (by decide +kernel) ha (by decide +kernel) (by decide +kernel) (star1 hs) O.hK
  · exact de_b1 pr_maxI (cr_max O.calm) (O.gl hg) (O.blt hm) (by decide +kernel) ha (by decide +kernel) (by decide +kernel) (star1 hs) O.hK
  · exact de_t1 pr_tuple call_tuple_of (O.gl hg) (O.blt hm) (by decide +kernel) ha (by decide +kernel) (by decide +kernel) (star1 hs) O.hK
  · exact de_t1 pr_int call_int1 (O.gl hg) (O.blt hm) (by decide +kernel) ha (by decide +kernel) (by decide +kernel) (star1 hs) O.hK
theorem b1F_ok (O : OkX G k C X Z) {p : Pos} (ha : DB X Z e ma) (hs : isStar e = false) : ∀ B ∈ b1F, C.glb B.name = true → G.mod.contains B.name = false → DF X Z (.Call (.Name B.name p) [e] [] pos) (x1 B.f ma) := by
  intro B hB hg hm
  simp only [b1F, List.mem_cons, List.mem_nil_iff, or_false] at hB
  rcases hB with rfl | rfl
  · exact df_t1 pr_listF call_list_of (O.gl hg) (O.blt hm) (by decide +kernel) ha (by decide +kernel) (by decide +kernel) (star1 hs) O.hK
  · exact df_b1 pr_sortAF (cr_sortA (by have := O.un; omega)) (O.gl hg) (O.blt hm) (by decide +kernel) ha (by decide +kernel) (by decide +kernel) (star1 hs) O.hK
end
def cFn (G : Gx) (C : Cc) (x : Str) (ms : Ag) : Ex := match G.fns.find? fun E => decide (E.name = x) with
  | some E => if (!E.g || C.gd) = true then xCall G.cf E.f E.np ms else xStuck
  | none => match G.cls.find? fun E => decide (E.name = x) with
    | some E => xMake G.cf E.fInit E.npInit ms
    | none => xStuck
section
variable {G : Gx} {k : Nat} {C : Cc} {X : Cx} {Z : Env1} {e : Expr} {pos : Pos}
theorem de_fn (O : OkX G k C X Z) {x : Str} {es : List Expr} {ms : Ag} {p : Pos} (ha : DA X Z (e :: es) ms) (hs : noStar (e :: es) = true) (hg : C.glb x = true) (hn : nmOk x = true) : DE X Z (.Call (.Name x p) (e :: es) [] pos) (cFn G C x ms) := by
  simp only [noStar, Bool.and_eq_true, Bool.not_eq_true'] at hs
  simp only [nmOk, Bool.and_eq_true, Bool.not_eq_true'] at hn
  unfold cFn
  split
  · rename_i E hE
    have hx : E.name = x := by have z := List.find?_some hE; simpa using z
    obtain ⟨fa, fd, ps, h1, h2, h3, h4, h5⟩ := (O.g.fns E (List.mem_of_find?_eq_some hE)).ex
    rw [hx] at h1
    split
    · rename_i hgd
      by_cases hEg : E.g = true
      · rw [hEg] at hgd
        have hgd : C.gd = true := by simpa using hgd
        exact de_callG (by rw [← O.hK]; exact h4) (O.room.mono (by omega)) (O.gd hgd) (O.gl hg) h1 (by rw [← O.hK]; exact h2) (by rw [← O.hK]; exact h3) O.tk ha hn.1 (star1 hs.1) (star_any hs.2)
      · exact de_call (by rw [← O.hK]; exact h5 (by simpa using hEg)) (O.room.mono (by omega)) (O.gl hg) h1 (by rw [← O.hK]; exact h2) (by rw [← O.hK]; exact h3) O.tk ha hn.1 (star1 hs.1) (star_any hs.2)
    · exact de_stuck
  · split
    · rename_i E hE
      have hx : E.name = x := by have z := List.find?_some hE; simpa using z
      have hc := O.g.cls E (List.mem_of_find?_eq_some hE)
      obtain ⟨fa, fd, ps, h1, h2, h3⟩ := hc.init
      exact de_make (by rw [← O.hK]; exact h1) (by rw [← O.hK]; exact h2) (O.room.mono (by omega)) (O.gl hg) (by rw [← hx]; exact hc.at_) (by rw [← O.hK]; exact h3) O.tk ha hn.1 (star1 hs.1) (star_any hs.2)
    · exact de_stuck
end
end Qi
namespace Qi
open PySem PySem.Spec L2 PyProof.Rows
section
variable {G : Gx} {k : Nat} {C : Cc} {X : Cx} {Z : Env1} {a b c e : Expr} {ma mb mc : Ex} {pos : Pos}
def ordOp : CmpOp → Option (D → D → Sto → Res D)
  | .Lt => some oLt
  | .LtE => some oLe
  | .Gt => some oGt
  | .GtE => some oGe
  | _ => none
theorem ordOp_ok {op : CmpOp} {f : D → D → Sto → Res D} (h : ordOp op = some f) : ∃ r, Pr2 X.K r f ∧ OpR X (compareOp op) r := by
  cases op with
  | Lt => cases h; exact ⟨_, pr_lt, op_lt⟩
  | LtE => cases h; exact ⟨_, pr_le, op_le⟩
  | Gt => cases h; exact ⟨_, pr_gt, op_gt⟩
  | GtE => cases h; exact ⟨_, pr_ge, op_ge⟩
  | _ => cases h
theorem last2 {op op' : CmpOp} (h : isSetD c = false) : lastMarks [op, op'] [b, c] = false := by
  unfold lastMarks
  unfold lastMarks
  exact behind_no h
def cChain (op op' : CmpOp) (a b c : Ex) : Ex := match ordOp op, ordOp op' with
  | some f, some f' => xCh f f' a b c
  | _, _ => xStuck
theorem de_chainA {op op' : CmpOp} (O : OkX G k C X Z) (ha : DE X Z a ma) (hb : DE X Z b mb) (hc : DE X Z c mc) (hs : isSetD c = false) : DE X Z (.Compare a [op, op'] [b, c] pos) (cChain op op' ma mb mc) := by
  unfold cChain
  split
  · rename_i f f' h1 h2
    obtain ⟨r, p1, o1⟩ := ordOp_ok (X := X) h1
    obtain ⟨r', p2, o2⟩ := ordOp_ok (X := X) h2
    exact de_chain p1 p2 (pe_chain o1 o2 ha hb hc (last2 hs)) O.hK
  · exact de_stuck
theorem dt_chainA {op op' : CmpOp} (O : OkX G k C X Z) (ha : DE X Z a ma) (hb : DE X Z b mb) (hc : DE X Z c mc) (hs : isSetD c = false) : DT X Z (.Compare a [op, op'] [b, c] pos) (tE (cChain op op' ma mb mc)) := by
  unfold cChain
  split
  · rename_i f f' h1 h2
    obtain ⟨r, p1, o1⟩ := ordOp_ok (X := X) h1
    obtain ⟨r', p2, o2⟩ := ordOp_ok (X := X) h2
    exact dt_chain p1 p2 (pt_chain o1 o2 ha hb hc (last2 hs)) O.hK
  · exact ⟨fun _ _ _ _ _ _ ⟨_, _, _, _, _, h⟩ => h.elim⟩
def cLen (G : Gx) (m : Ex) : Ex := match G.cls with
  | [] => x1 oLen m
  | E :: _ => xLenA G.cf E.fLen E.cn m
theorem de_lenX {p : Pos} (O : OkX G k C X Z) (ha : DB X Z e ma) (hs : isStar e = false) (hg : C.glb "len" = true) (hm : G.mod.contains "len" = false) : DE X Z (.Call (.Name "len" p) [e] [] pos) (cLen G ma) := by
  unfold cLen
  split
  · exact de_b1 pr_len call_len (O.gl hg) (O.blt hm) (by decide +kernel) ha (by decide +kernel) (by decide +kernel) (star1 hs) O.hK
  · rename_i E r hc
    have h := O.g.cls E (by rw [hc]; exact List.mem_cons_self)
    obtain ⟨fa, F⟩ := h.ownLen (P := X.prog) (w := X.w) O.hK
    exact de_lenA F (O.room.mono (by omega)) call_len (O.gl hg) (O.blt hm) (by decide +kernel) ha (star1 hs) O.hK
def tyTab : List (Str × Ty) := [("int", .int), ("bool", .bool), ("str", .str), ("tuple", .tuple), ("list", .list), ("dict", .dict)]
theorem ty_ok (O : OkX G k C X Z) {p : Pos} : ∀ q ∈ tyTab, C.glb q.1 = true → G.mod.contains q.1 = false → PE X (.Name q.1 p) (tC (.ty q.2.nm)) := by
  intro q hq hg hm
  simp only [tyTab, List.mem_cons, List.mem_nil_iff, or_false] at hq
  rcases hq with rfl | rfl | rfl | rfl | rfl | rfl
  · exact pe_bltn (O.gl hg) (O.blt hm) (by decide +kernel) rfl (by decide +kernel) (by decide +kernel)
  · exact pe_bltn (O.gl hg) (O.blt hm) (by decide +kernel) rfl (by decide +kernel) (by decide +kernel)
  · exact pe_bltn (O.gl hg) (O.blt hm) (by decide +kernel) rfl (by decide +kernel) (by decide +kernel)
  · exact pe_bltn (O.gl hg) (O.blt hm) (by decide +kernel) rfl (by decide +kernel) (by decide +kernel)
  · exact pe_bltn (O.gl hg) (O.blt hm) (by decide +kernel) rfl (by decide +kernel) (by decide +kernel)
  · exact pe_bltn (O.gl hg) (O.blt hm) (by decide +kernel) rfl (by decide +kernel) (by decide +kernel)
def bltOk (G : Gx) (C : Cc) (x : Str) : Bool := C.glb x && !G.mod.contains x
def tabF (l : List (Nat × Bool)) (c : Nat) : Option Bool := (l.find? fun q => decide (q.1 = c)).map (·.2)
theorem tabF_mem {l : List (Nat × Bool)} {c : Nat} {b : Bool} (h : tabF l c = some b) : (c, b) ∈ l := by
  unfold tabF at h
  cases q : l.find? fun q => decide (q.1 = c) with
  | none => rw [q] at h; cases h
  | some r =>
    rw [q] at h
    have h1 : r.1 = c := by simpa using List.find?_some q
    have h2 : r.2 = b := by simpa using h
    have := List.mem_of_find?_eq_some q
    rw [← h1, ← h2]; exact this
/-- isinstance(e, t) -/
def cIsi (G : Gx) (C : Cc) (m : Ex) (t : Expr) : Ex := match t with
  | .Name y _ => match tyTab.find? fun q => decide (q.1 = y) with
    | some q => if bltOk G C y = true then x1 (oIsT q.2) m else xStuck
    | none => match G.cls.find? fun E => decide (E.name = y) with
      | some E => if (C.glb y && nmOk y) = true then xIsO E.cn m else xStuck
      | none => match G.isE.find? fun p => decide (p.1 = y) with
        | some p => if (C.glb y && nmOk y) = true then xIsE (tabF p.2) m else xStuck
        | none => match G.isB.find? fun p => decide (Str.ofString p.1 = y) with
          | some p => if (bltOk G C y && (decide (p.1 = "ValueError") || decide (p.1 = "OverflowError"))) = true then xIsE (tabF p.2) m else xStuck
          | none => xStuck
  | .Tuple [.Name y1 _, .Name y2 _] _ _ => if (decide (y1 = "list") && decide (y2 = "tuple") && bltOk G C "list" && bltOk G C "tuple") = true then x1 oIsLT m else xStuck
  | _ => xStuck
theorem bltOk_of {x : Str} (h : bltOk G C x = true) : C.glb x = true ∧ G.mod.contains x = false := by
  unfold bltOk at h
  simpa using h
theorem de_isi {p : Pos} {t : Expr} (O : OkX G k C X Z) (ha : DB X Z e ma) (hs : isStar e = false) (hb : bltOk G C "isinstance" = true) : DE X Z (.Call (.Name "isinstance" p) [e, t] [] pos) (cIsi G C ma t) := by
  obtain ⟨g1, g2⟩ := bltOk_of hb
  unfold cIsi
  split
  · rename_i y p2
    split
    · rename_i q hq
      have hx : q.1 = y := by have z := List.find?_some hq; simpa using z
      split
      · rename_i hy
        rw [← hx] at hy
        obtain ⟨g3, g4⟩ := bltOk_of hy
        have := ty_ok (Z := Z) O (p := p2) q (List.mem_of_find?_eq_some hq) g3 g4
        rw [hx] at this
        exact de_isT (O.gl g1) (O.blt g2) (by decide +kernel) ha this (by decide +kernel) (by decide +kernel) (star1 hs) rfl rfl O.hK
      · exact de_stuck
    · split
      · rename_i E hE
        have hx : E.name = y := by have z := List.find?_some hE; simpa using z
        split
        · rename_i hg
          simp only [nmOk, Bool.and_eq_true, Bool.not_eq_true'] at hg
          have hc := O.g.cls E (List.mem_of_find?_eq_some hE)
          exact de_isO (by rw [← O.hK]; exact hc.isc) (O.gl g1) (O.blt g2) (by decide +kernel) ha (pe_glob (O.gl hg.1) (by rw [← hx]; exact hc.at_) rfl hg.2.1) (star1 hs) rfl rfl O.hK
        · exact de_stuck
      · split
        · rename_i p hp
          have hx : p.1 = y := by have z := List.find?_some hp; simpa using z
          split
          · rename_i hg
            simp only [nmOk, Bool.and_eq_true, Bool.not_eq_true'] at hg
            obtain ⟨C1, h1, h2⟩ := O.g.isE p (List.mem_of_find?_eq_some hp)
            exact de_isE (cv := .ref C1) (cval := .ref C1) (O.gl g1) (O.blt g2) (by decide +kernel) ha (pe_glob (O.gl hg.1) (by rw [← hx]; exact h1) rfl hg.2.1) (fun u z => z) (fun c b z => by rw [← O.hK]; exact h2 _ (tabF_mem z)) (star1 hs) rfl rfl
          · exact de_stuck
        · split
          · rename_i p hp
            have hx : Str.ofString p.1 = y := by have z := List.find?_some hp; simpa using z
            split
            · rename_i hg
              simp only [Bool.and_eq_true, Bool.or_eq_true, decide_eq_true_eq] at hg
              obtain ⟨g3, g4⟩ := bltOk_of hg.1
              have h2 := O.g.isB p (List.mem_of_find?_eq_some hp)
              have hy : PE X (.Name y p2) (tC (.ty p.1)) := by
                rcases hg.2 with z | z
                · rw [← hx, z] at g3 g4 ⊢
                  exact pe_bltn (O.gl g3) (O.blt g4) (by decide +kernel) rfl (by decide +kernel) (by decide +kernel)
                · rw [← hx, z] at g3 g4 ⊢
                  exact pe_bltn (O.gl g3) (O.blt g4) (by decide +kernel) rfl (by decide +kernel) (by decide +kernel)
              exact de_isE (cv := .ty p.1) (cval := .type p.1) (O.gl g1) (O.blt g2) (by decide +kernel) ha hy (fun u z => z) (fun c b z => by rw [← O.hK]; exact h2 _ (tabF_mem z)) (star1 hs) rfl rfl
            · exact de_stuck
          · exact de_stuck
  · rename_i y1 p1 y2 p2 kk p3
    split
    · rename_i h
      simp only [Bool.and_eq_true, decide_eq_true_eq] at h
      obtain ⟨⟨⟨rfl, rfl⟩, h3⟩, h4⟩ := h
      obtain ⟨g3, g4⟩ := bltOk_of h3
      obtain ⟨g5, g6⟩ := bltOk_of h4
      exact de_isLT (O.gl g1) (O.blt g2) (by decide +kernel) ha (pe_bltn (O.gl g3) (O.blt g4) (by decide +kernel) rfl (by decide +kernel) (by decide +kernel)) (pe_bltn (O.gl g5) (O.blt g6) (by decide +kernel) rfl (by decide +kernel) (by decide +kernel)) O.hK (star1 hs) rfl rfl rfl rfl
    · exact de_stuck
  · exact de_stuck
theorem de_reprX {p : Pos} (O : OkX G k C X Z) (ha : DB X Z e ma) (hs : isStar e = false) (hb : bltOk G C "repr" = true) (hgd : C.gd = true) : DE X Z (.Call (.Name "repr" p) [e] [] pos) (x1 oRepr ma) := by
  obtain ⟨g1, g2⟩ := bltOk_of hb
  exact de_b1 pr_repr (cr_reprR (by rw [← O.hK]; exact O.g.md) (O.gd hgd) (by have := O.un; omega)) (O.gl g1) (O.blt g2) (by decide +kernel) ha (by decide +kernel) (by decide +kernel) (star1 hs) O.hK
end
end Qi
namespace Qi
open PySem PySem.Spec L2 PyProof.Rows
def toL (m : Ex) : Ex := fun σ S => (m σ S).bind fun d S1 => match d with
  | .lst l => .ok (.lst l) S1
  | _ => .stuck
def oLstS (ds : List D) (S : Sto) : Res D := if szOk ds.length = true then .ok (.lst ds) S else .stuck
theorem toL_lst {m : Ex} : ∀ σ S d S', toL m σ S = .ok d S' → ∃ ds, d = .lst ds := fun σ S d S' h => by
  unfold toL at h
  cases q : m σ S with
  | ok x S1 =>
    rw [q] at h
    cases x with
    | lst l => cases h; exact ⟨_, rfl⟩
    | _ => cases h
  | exc x S1 => rw [q] at h; cases h
  | stuck => rw [q] at h; cases h
section
variable {G : Gx} {k : Nat} {C : Cc} {X : Cx} {Z : Env1} {a b c e : Expr} {ma mb mc : Ex} {pos : Pos}
theorem df_toL {m : Ex} (h : DF X Z e m) : DF X Z e (toL m) := PE.imp h fun σV H Q => by
  rintro ⟨g, j, σ, S, R, q⟩
  refine ⟨g, j, σ, S, R, ?_⟩
  unfold toL at q
  generalize m σ S = r at q ⊢
  cases r with
  | ok d S1 =>
    cases d with
    | lst l => exact q
    | _ => exact q.elim
  | exc x S1 => exact q
  | stuck => exact q
theorem df_lstS {es : List Expr} {ms : Ag} (h : DA X Z es ms) : DF X Z (.List es pos) (xL oLstS ms) := PE.imp (pe_lst h) fun σV H Q => by
  rintro ⟨g, j, σ, S, R, h⟩
  refine ⟨g, j, σ, S, R, OutF.bind (fun ds S1 j1 vs H1 R1 s1 rds h1 => ?_) h⟩
  unfold oLstS at h1
  split at h1
  · rename_i hz
    have hl := szOk_le hz
    refine ⟨by rw [rds.length]; exact hl, fun p hp => out_lstF R1 hl rds h1 hp⟩
  · exact h1.elim
theorem xLS_lst {ms : Ag} : ∀ σ S d S', xL oLstS ms σ S = .ok d S' → ∃ ds, d = .lst ds := fun σ S d S' h => by
  unfold xL at h
  cases q : ms σ S with
  | ok x S1 =>
    rw [q] at h
    simp only [Res.bind, oLstS] at h
    split at h
    · cases h; exact ⟨_, rfl⟩
    · cases h
  | exc x S1 => rw [q] at h; cases h
  | stuck => rw [q] at h; cases h
theorem xI_lst {t : Ts} {m n : Ex} (hm : ∀ σ S d S', m σ S = .ok d S' → ∃ ds, d = .lst ds) (hn : ∀ σ S d S', n σ S = .ok d S' → ∃ ds, d = .lst ds) : ∀ σ S d S', xI t m n σ S = .ok d S' → ∃ ds, d = .lst ds := fun σ S d S' h => by
  unfold xI at h
  cases q : t σ S with
  | ok x S1 =>
    rw [q] at h
    simp only [Res.bind] at h
    split at h
    · exact hm _ _ _ _ h
    · exact hn _ _ _ _ h
  | exc x S1 => rw [q] at h; cases h
  | stuck => rw [q] at h; cases h
end
def Cc.blk (C : Cc) (scope : Scope) : Cc := { C with sc := relS scope C.sc, own := fun x => scope.names.lookup x == some .cell, lm := false }
section
variable {G : Gx} {k : Nat} {C : Cc} {X : Cx} {Z : Env1} {a b c e : Expr} {ma mb mc : Ex} {pos : Pos}
theorem takes_no {X : Cx} {Z : Env1} : Takes X Z.no.W := fun u s' ⟨a, B, sI, pins, σ, H, cls, d, e, I, nb, up, sky, na, os, ag, w⟩ => w.elim
theorem OkX.blk (O : OkX G k C X Z) (scope : Scope) (s : Shared) (H : Hp) (A : Addr) (cl : List (Str × Addr)) (fp : List Addr) : OkX G k (C.blk scope) (X.blk s H scope (compEnvC scope cl A X.env) fp) Z.no where
  hN := O.hN
  sc := by
    show relS scope X.env.scope = relS scope C.sc
    rw [O.sc]
  nd := O.nd
  calm := O.calm
  hK := O.hK
  lin := O.lin
  tk := takes_no
  room := O.room
  room5 := O.room5
  lam := fun z => (nomatch (show false = true from z))
  gd := O.gd
  fn := fun x h => h
  g := O.g
def ownOf (C : Cc) (scope : Scope) : List (Str × Nat) := scope.names.filterMap fun y => match y.2 with
  | .local => (C.ix y.1).map fun i => (y.1, i)
  | .cell => (C.ix y.1).map fun i => (y.1, i)
  | _ => none
def cIfs (F : CF) (C : Cc) : List Expr → Option Ts
  | [] => some tT
  | [c] => some (F.t C c)
  | _ => none
theorem ifs_of {F : CF} (S : Snd G k F) (O : OkX G k C X Z) {ifs : List Expr} {t : Ts} (h : cIfs F C ifs = some t) : PTs X ifs (lT Z t) := by
  unfold cIfs at h
  split at h
  · cases h; exact dts_nil
  · cases h; exact dts_one (S.t O _)
  · cases h
def subL (xs ys : List Nat) : Bool := xs.all fun i => ys.contains i
theorem subL_of {xs ys : List Nat} (h : subL xs ys = true) : ∀ i ∈ xs, i ∈ ys := fun i hi => by
  have := List.all_eq_true.mp h i hi
  simpa using this
theorem set_iter {iter : Expr} {env : Env} (h : isSetD iter = false) : ∀ x, foldedSetIterable iter env x = pure x := by
  intro x
  cases iter <;> first | rfl | cases h
/-- a linear name that is to be walked as it stands -/
def lcB (C : Cc) : Expr → Option Nat
  | .Name x p => match C.slot x with
    | some i => if (C.lin i && C.fz.contains (p.line + 100000, i)) = true then some i else none
    | none => none
  | _ => none
def cLc (F : CF) (C : Cc) (elt tg iter : Expr) (ifs : List Expr) (scope : Scope) : Ex := match tgOf (C.blk scope) tg, cIfs F (C.blk scope) ifs with
  | some t, some c => if (blkC C.N C.sc scope (ownOf C scope) && subL (tgS t) ((ownOf C scope).map (·.2)) && linOff C ((ownOf C scope).map (·.2)) && !isSetD iter) = true then
      (match lcB C iter with
        | some i => xLcB i t c (F.e (C.blk scope) elt) ((ownOf C scope).map (·.2))
        | none => xLc (F.i C tg iter) t c (F.e (C.blk scope) elt) ((ownOf C scope).map (·.2))) else xStuck
  | _, _ => xStuck
theorem lcB_of {C : Cc} {iter : Expr} {i : Nat} (h : lcB C iter = some i) : ∃ x p, iter = .Name x p ∧ C.slot x = some i ∧ C.lin i = true := by
  unfold lcB at h
  split at h
  · rename_i x p
    split at h
    · rename_i j e
      split at h
      · rename_i q
        cases h
        rw [Bool.and_eq_true] at q
        exact ⟨x, p, rfl, e, q.1⟩
      · cases h
    · cases h
  · cases h
theorem df_lcA {F : CF} (S : Snd G k F) (O : OkX G k C X Z) {elt tg iter : Expr} {ifs : List Expr} {scope : Scope} : DF X Z (.ListComp elt [⟨tg, iter, ifs, 0⟩] scope pos) (cLc F C elt tg iter ifs scope) := by
  unfold cLc
  split
  · rename_i t c h1 h2
    split
    · rename_i h
      simp only [Bool.and_eq_true, Bool.not_eq_true'] at h
      obtain ⟨⟨⟨h3, h4⟩, h5⟩, h6⟩ := h
      split
      · rename_i i hi
        obtain ⟨x, p, rfl, e1, e2⟩ := lcB_of hi
        exact df_LCB (ownOf C scope) O.nd (O.var e1) (by rw [O.lin]; exact e2) (fun s H A cl fp => pg_of (O.blk scope s H A cl fp) h1) (fun s H A cl fp => ifs_of S (O.blk scope s H A cl fp) h2) (fun s H A cl fp => S.e (O.blk scope s H A cl fp) elt)
          (by rw [O.hN, O.sc]; exact h3) (subL_of h4) (O.off h5) O.calm (set_iter h6) O.hK
      exact df_LC (ownOf C scope) O.nd (S.i O tg iter) (fun s H A cl fp => pg_of (O.blk scope s H A cl fp) h1) (fun s H A cl fp => ifs_of S (O.blk scope s H A cl fp) h2) (fun s H A cl fp => S.e (O.blk scope s H A cl fp) elt)
        (by rw [O.hN, O.sc]; exact h3) (subL_of h4) (O.off h5) O.calm (set_iter h6) O.hK
    · exact df_stuck
  · exact df_stuck
theorem cLc_lst {F : CF} {elt tg iter : Expr} {ifs : List Expr} {scope : Scope} : IsL (cLc F C elt tg iter ifs scope) := by
  unfold cLc
  split
  · split
    · split
      · exact xLcB_lst
      · exact xLc_lst
    · exact stuck_lst
  · exact stuck_lst
def cLc2 (F : CF) (C : Cc) (elt tg iter : Expr) (ifs : List Expr) (tg1 iter1 : Expr) (ifs1 : List Expr) (scope : Scope) : Ex := match tgOf (C.blk scope) tg, cIfs F (C.blk scope) ifs, tgOf (C.blk scope) tg1, cIfs F (C.blk scope) ifs1 with
  | some t, some c, some t1, some c1 => if (blkC C.N C.sc scope (ownOf C scope) && subL (tgS t) ((ownOf C scope).map (·.2)) && linOff C ((ownOf C scope).map (·.2)) && !isSetD iter && !isSetD iter1 && subL (tgS t1) ((ownOf C scope).map (·.2))) = true then
      xLc2 (F.i C tg iter) t c (F.i (C.blk scope) tg1 iter1) t1 c1 (F.e (C.blk scope) elt) ((ownOf C scope).map (·.2)) (tgS t1) else xStuck
  | _, _, _, _ => xStuck
theorem df_lc2A {F : CF} (S : Snd G k F) (O : OkX G k C X Z) {elt tg iter tg1 iter1 : Expr} {ifs ifs1 : List Expr} {scope : Scope} : DF X Z (.ListComp elt [⟨tg, iter, ifs, 0⟩, ⟨tg1, iter1, ifs1, 0⟩] scope pos) (cLc2 F C elt tg iter ifs tg1 iter1 ifs1 scope) := by
  unfold cLc2
  split
  · rename_i t c t1 c1 h1 h2 h7 h8
    split
    · rename_i h
      simp only [Bool.and_eq_true, Bool.not_eq_true'] at h
      obtain ⟨⟨⟨⟨⟨h3, h4⟩, h5⟩, h6⟩, h9⟩, h10⟩ := h
      refine df_lc2 (own := ownOf C scope) (pe_lc2 O.calm O.nd (S.i O tg iter) (blkOk_by (by rw [O.hN, O.sc]; exact h3)) (subL_of h10) (fun s H A cl fp => pg_of (O.blk scope s H A cl fp) h1) (fun s H A cl fp => ifs_of S (O.blk scope s H A cl fp) h2)
        (fun s H A cl fp => S.i (O.blk scope s H A cl fp) tg1 iter1) (fun s H A cl fp => pg_of (O.blk scope s H A cl fp) h7) (fun s H A cl fp => ifs_of S (O.blk scope s H A cl fp) h8) (fun s H A cl fp => S.e (O.blk scope s H A cl fp) elt) (set_iter h6) (fun env x => set_iter h9 x))
        (subL_of h4) (O.off h5) (fun i hi => hi) (fun i hi => O.off h5 i (subL_of h10 i hi)) O.hK
    · exact df_stuck
  · exact df_stuck
theorem cLc2_lst {F : CF} {elt tg iter tg1 iter1 : Expr} {ifs ifs1 : List Expr} {scope : Scope} : IsL (cLc2 F C elt tg iter ifs tg1 iter1 ifs1 scope) := by
  unfold cLc2
  split
  · split
    · exact xLc2_lst
    · exact stuck_lst
  · exact stuck_lst
def cRg (G : Gx) (F : CF) (C : Cc) : Expr → Option Ag
  | .Call (.Name x _) [a] [] _ => if (decide (x = "range") && bltOk G C x && !isStar a) = true then some (mRg1 (F.e C a)) else none
  | .Call (.Name x _) [a, b] [] _ => if (decide (x = "range") && bltOk G C x && !isStar a && !isStar b) = true then some (mRg2 (F.e C a) (F.e C b)) else none
  | _ => none
def isTupE : Expr → Bool
  | .Tuple _ _ _ => true
  | _ => false
def cEnu (G : Gx) (F : CF) (C : Cc) (tg : Expr) : Expr → Option Ag
  | .Call (.Name x _) [a] [] _ => if (decide (x = "enumerate") && bltOk G C x && !isStar a && isTupE tg) = true then some (mEnum (F.e C a)) else none
  | .Call (.Name x _) [a, b] [] _ => if (decide (x = "zip") && bltOk G C x && !isStar a && !isStar b && isTupE tg) = true then some (mZip (F.a C [a, b])) else none
  | _ => none
theorem di_of {F : CF} (S : Snd G k F) (O : OkX G k C X Z) {tg it : Expr} {m : Ag} (h : cRg G F C it = some m) : DI X Z tg it m := by
  unfold cRg at h
  split at h
  · rename_i x p a q
    split at h
    · rename_i hz
      simp only [Bool.and_eq_true, Bool.not_eq_true', decide_eq_true_eq] at hz
      obtain ⟨⟨rfl, h1⟩, h2⟩ := hz
      obtain ⟨g1, g2⟩ := bltOk_of h1
      cases h
      exact di_rg1 (fun ha => pi_range1 (O.gl g1) (O.blt g2) ha (star1 h2)) (S.e O a) (star1 h2)
    · cases h
  · rename_i x p a b q
    split at h
    · rename_i hz
      simp only [Bool.and_eq_true, Bool.not_eq_true', decide_eq_true_eq] at hz
      obtain ⟨⟨⟨rfl, h1⟩, h2⟩, h3⟩ := hz
      obtain ⟨g1, g2⟩ := bltOk_of h1
      cases h
      exact di_rg2 (fun ha => pi_range2 (O.gl g1) (O.blt g2) ha (by rw [star1 h2, star1 h3]; rfl) (by rw [star1 h3]; rfl)) (S.e O a) (S.e O b) (star1 h2) (star1 h3)
    · cases h
  · cases h
theorem di_en {F : CF} (S : Snd G k F) (O : OkX G k C X Z) {tg it : Expr} {m : Ag} (h : cEnu G F C tg it = some m) : DI X Z tg it m := by
  unfold cEnu at h
  split at h
  · rename_i x p a q
    split at h
    · rename_i hz
      simp only [Bool.and_eq_true, Bool.not_eq_true', decide_eq_true_eq] at hz
      obtain ⟨⟨⟨rfl, h1⟩, h2⟩, h3⟩ := hz
      obtain ⟨g1, g2⟩ := bltOk_of h1
      cases h
      cases tg with
      | Tuple elts kk tp => exact di_enum (O.gl g1) (O.blt g2) (S.e O a) (star1 h2) O.hK
      | _ => cases h3
    · cases h
  · rename_i x p a b q
    split at h
    · rename_i hz
      simp only [Bool.and_eq_true, Bool.not_eq_true', decide_eq_true_eq] at hz
      obtain ⟨⟨⟨⟨rfl, h1⟩, h2⟩, h4⟩, h3⟩ := hz
      obtain ⟨g1, g2⟩ := bltOk_of h1
      cases h
      cases tg with
      | Tuple elts kk tp => exact di_zip (O.gl g1) (O.blt g2) (S.a O [a, b]) (star1 h2) (by rw [star1 h4]; rfl) O.hK
      | _ => cases h3
    · cases h
  · cases h
def stI (G : Gx) (F : CF) (C : Cc) (tg it : Expr) : Ag := match cRg G F C it with
  | some m => m
  | none => match cEnu G F C tg it with
    | some m => m
    | none => mIt (F.e C it)
theorem stI_ok {F : CF} (S : Snd G k F) (O : OkX G k C X Z) (tg it : Expr) : DI X Z tg it (stI G F C tg it) := by
  unfold stI
  split
  · rename_i m h; exact di_of S O h
  · split
    · rename_i m h; exact di_en S O h
    · exact di_seq (S.e O it) O.hK
end
end Qi
namespace Qi
open PySem PySem.Spec L2 PyProof.Rows
section
variable {G : Gx} {k : Nat} {C : Cc} {X : Cx} {Z : Env1} {a b c e : Expr} {ma mb mc : Ex} {pos : Pos}
/-- set(e) -/
def setArg (G : Gx) (C : Cc) : Expr → Option Expr
  | .Call (.Name x _) [a] [] _ => if (decide (x = "set") && bltOk G C x && !isStar a) = true then some a else none
  | _ => none
theorem setArg_of {e a : Expr} (h : setArg G C e = some a) : ∃ p q, e = .Call (.Name "set" p) [a] [] q ∧ bltOk G C "set" = true ∧ isStar a = false := by
  unfold setArg at h
  split at h
  · rename_i x p a q
    split at h
    · rename_i hz
      simp only [Bool.and_eq_true, Bool.not_eq_true', decide_eq_true_eq] at hz
      obtain ⟨⟨rfl, h1⟩, h2⟩ := hz
      cases h
      exact ⟨_, _, rfl, h1, h2⟩
    · cases h
  · cases h
def rgArg (G : Gx) (C : Cc) : Expr → Option (Expr × Option Expr)
  | .Call (.Name x _) [a] [] _ => if (decide (x = "range") && bltOk G C x && !isStar a) = true then some (a, none) else none
  | .Call (.Name x _) [a, b] [] _ => if (decide (x = "range") && bltOk G C x && !isStar a && !isStar b) = true then some (a, some b) else none
  | _ => none
theorem rgArg_of {e a : Expr} {o : Option Expr} (h : rgArg G C e = some (a, o)) : bltOk G C "range" = true ∧ isStar a = false ∧ ∃ p q, match o with
    | none => e = .Call (.Name "range" p) [a] [] q
    | some b => e = .Call (.Name "range" p) [a, b] [] q ∧ isStar b = false := by
  unfold rgArg at h
  split at h
  · rename_i x p a q
    split at h
    · rename_i hz
      simp only [Bool.and_eq_true, Bool.not_eq_true', decide_eq_true_eq] at hz
      obtain ⟨⟨rfl, h1⟩, h2⟩ := hz
      cases h
      exact ⟨h1, h2, _, _, rfl⟩
    · cases h
  · rename_i x p a b q
    split at h
    · rename_i hz
      simp only [Bool.and_eq_true, Bool.not_eq_true', decide_eq_true_eq] at hz
      obtain ⟨⟨⟨rfl, h1⟩, h2⟩, h3⟩ := hz
      cases h
      exact ⟨h1, h2, _, _, rfl, h3⟩
    · cases h
  · cases h
def cCallF (G : Gx) (F : CF) (C : Cc) (x : Str) (e : Expr) : Ex :=
  if (bltOk G C x && !isStar e) = true then
    if decide (x = "list") = true then (match rgArg G C e with
      | some (a, none) => xRgL (mRg1 (F.e C a))
      | some (a, some b) => xRgL (mRg2 (F.e C a) (F.e C b))
      | none => x1 oList (F.b C e))
    else if decide (x = "sorted") = true then (match setArg G C e with
      | some a => x1 oSortSet (F.b C a)
      | none => x1 oSortA (F.b C e))
    else xStuck
  else xStuck
theorem cCallF_lst {F : CF} {x : Str} : IsL (cCallF G F C x e) := by
  unfold cCallF
  split
  · split
    · split
      · exact l_rg
      · exact l_rg
      · exact x1_lst l_list
    · split
      · split
        · exact x1_lst l_sortSet
        · exact x1_lst l_sortA
      · exact stuck_lst
  · exact stuck_lst
theorem df_call1 {F : CF} (S : Snd G k F) (O : OkX G k C X Z) {x : Str} {p : Pos} : DF X Z (.Call (.Name x p) [e] [] pos) (cCallF G F C x e) := by
  unfold cCallF
  split
  · rename_i hz
    simp only [Bool.and_eq_true, Bool.not_eq_true'] at hz
    obtain ⟨hb, hs⟩ := hz
    obtain ⟨g1, g2⟩ := bltOk_of hb
    split
    · rename_i hx
      have hx : x = "list" := of_decide_eq_true hx
      subst hx
      split
      · rename_i a hr
        obtain ⟨r1, r2, p2, q2, rfl⟩ := rgArg_of hr
        obtain ⟨g3, g4⟩ := bltOk_of r1
        exact df_listRg1 (pe_listRg O.calm (O.gl g1) (O.blt g2) (prg_1 (O.gl g3) (O.blt g4) (S.e O a) (star1 r2)) rfl)
      · rename_i a b hr
        obtain ⟨r1, r2, p2, q2, rfl, r3⟩ := rgArg_of hr
        obtain ⟨g3, g4⟩ := bltOk_of r1
        exact df_listRg2 (pe_listRg O.calm (O.gl g1) (O.blt g2) (prg_2 (O.gl g3) (O.blt g4) (S.e O a) (S.e O b) (star1 r2) (star1 r3) (star_any (by simp [noStar, r3]))) rfl)
      · exact b1F_ok O (S.b O e) hs ⟨"list", oList⟩ (by simp [b1F]) g1 g2
    · split
      · rename_i _ hx
        have hx : x = "sorted" := of_decide_eq_true hx
        subst hx
        split
        · rename_i a hr
          obtain ⟨p2, q2, rfl, r1, r2⟩ := setArg_of hr
          obtain ⟨g3, g4⟩ := bltOk_of r1
          exact df_sortSet (fun ha => pe_sortSet O.calm (O.gl g1) (O.blt g2) (O.gl g3) (O.blt g4) ha (by decide +kernel) (star1 r2)) (S.b O a) O.hK
        · exact b1F_ok O (S.b O e) hs ⟨"sorted", oSortA⟩ (by simp [b1F]) g1 g2
      · exact df_stuck
  · exact df_stuck
def lamPar : Arguments → Option Str
  | ⟨[], [⟨x, none, _⟩], none, [], [], none, []⟩ => some x
  | _ => none
def Cc.lamb (C : Cc) (scope : Scope) : Cc := { C with sc := scope, own := fun _ => false, gd := false, lm := false, big := false, xq := false }
theorem lamPar_of {ps : Arguments} {x : Str} (h : lamPar ps = some x) : ∃ p, ps = ⟨[], [⟨x, none, p⟩], none, [], [], none, []⟩ := by
  unfold lamPar at h
  split at h
  · cases h; exact ⟨_, rfl⟩
  · cases h
theorem OkX.lamb (O : OkX G k C X Z) {scope : Scope} {A : Around} {outer : List Env} {s : Shared} {H : Hp} {E : XK} {f c' : Addr} (hr : Room (7 * k + 3) (A.deeper (LamX.lamEnv X scope s.heap.objs.size f c'))) : OkX G k (C.lamb scope) (LamX.lamCx X A outer s H E scope f c') Z.no where
  hN := O.hN
  sc := rfl
  nd := O.nd
  calm := rfl
  hK := O.hK
  lin := O.lin
  tk := takes_no
  room := hr
  room5 := fun z => (nomatch (show false = true from z))
  lam := fun z => (nomatch (show false = true from z))
  gd := fun z => (nomatch (show false = true from z))
  fn := fun x h => (nomatch (show false = true from h))
  g := O.g
theorem bind1 {x : Str} {p : Pos} {body : Expr} {scope : Scope} (q : Str) (cl : List (Str × Addr)) (pm cv ctv u : Value) : bindArgs (PySem.W.kla_fn "<lambda>" q ⟨[], [⟨x, none, p⟩], none, [], [], none, []⟩ body scope cl pm cv ctv) ⟨[u], []⟩ = pure [(x, u)] := by
  unfold bindArgs
  simp [PySem.W.kla_fn, show seqItems? Value.none = pure none from rfl]
def cSortK (G : Gx) (F : CF) (C : Cc) (x kn : Str) (e : Expr) (ps : Arguments) (body : Expr) (scope : Scope) : Ex := match lamPar ps with
  | some y => (match C.ix y with
    | some i => if (decide (x = "sorted") && decide (kn = "key") && C.lm && bltOk G C x && !isStar e && lam1B C.sc scope y && !C.lin i) = true then xSortK i (F.b C e) (F.e (C.lamb scope) body) else xStuck
    | none => xStuck)
  | none => xStuck
theorem df_sortKA {F : CF} (S : Snd G k F) (O : OkX G k C X Z) {x kn : Str} {p kp lp : Pos} {ps : Arguments} {body : Expr} {scope : Scope} : DF X Z (.Call (.Name x p) [e] [⟨some kn, .Lambda ps body scope lp, kp⟩] pos) (cSortK G F C x kn e ps body scope) := by
  unfold cSortK
  split
  · rename_i y hy
    split
    · rename_i i hi
      split
      · rename_i hz
        simp only [Bool.and_eq_true, Bool.not_eq_true', decide_eq_true_eq] at hz
        obtain ⟨⟨⟨⟨⟨⟨rfl, rfl⟩, h1⟩, h2⟩, h3⟩, h4⟩, h5⟩ := hz
        obtain ⟨g1, g2⟩ := bltOk_of h2
        obtain ⟨pp, rfl⟩ := lamPar_of hy
        obtain ⟨LF, hr⟩ := O.lam h1
        have L : Lam1 X.env.scope scope y := by rw [O.sc]; exact lam1_by h4
        exact df_sortK (O.gl g1) (O.blt g2) (S.b O e) (star1 h3) LF L O.nd (O.at_ hi) (O.linE h5) rfl bind1 (hr.mono (show 7 * k + 3 + 1 ≤ 7 * k + 6 by omega)) (fun s H f c' hr' => S.e (O.lamb hr') body) O.hK
      · exact df_stuck
    · exact df_stuck
  · exact df_stuck
theorem cSortK_lst {F : CF} {x kn : Str} {ps : Arguments} {body : Expr} {scope : Scope} : IsL (cSortK G F C x kn e ps body scope) := by
  unfold cSortK
  split
  · split
    · split
      · exact xSortK_lst
      · exact stuck_lst
    · exact stuck_lst
  · exact stuck_lst
def cCall1 (G : Gx) (F : CF) (C : Cc) (x : Str) (e : Expr) : Ex :=
  if (bltOk G C x && !isStar e) = true then
    if decide (x = "len") = true then (match setArg G C e with
      | some a => x1 oLenSet (F.b C a)
      | none => cLen G (F.b C e))
    else if decide (x = "repr") = true then (if C.gd = true then x1 oRepr (F.b C e) else xStuck)
    else match b1s.find? fun B => decide (B.name = x) with
      | some B => (match rgArg G C e with
        | some (a, none) => if decide (x = "tuple") = true then xRgT (mRg1 (F.e C a)) else xStuck
        | some (a, some b) => xStuck
        | none => x1 B.f (F.b C e))
      | none => cCallF G F C x e
  else xStuck
theorem de_call1 {F : CF} (S : Snd G k F) (O : OkX G k C X Z) {x : Str} {p : Pos} : DE X Z (.Call (.Name x p) [e] [] pos) (cCall1 G F C x e) := by
  unfold cCall1
  split
  · rename_i hz
    simp only [Bool.and_eq_true, Bool.not_eq_true'] at hz
    obtain ⟨hb, hs⟩ := hz
    obtain ⟨g1, g2⟩ := bltOk_of hb
    split
    · rename_i hx
      have hx : x = "len" := of_decide_eq_true hx
      subst hx
      split
      · rename_i a hr
        obtain ⟨p2, q2, rfl, r1, r2⟩ := setArg_of hr
        obtain ⟨g3, g4⟩ := bltOk_of r1
        exact de_lenSet (fun ha => pe_lenSet O.calm (O.gl g1) (O.blt g2) (O.gl g3) (O.blt g4) ha (star1 r2)) (S.b O a) O.hK
      · exact de_lenX O (S.b O e) hs g1 g2
    · split
      · rename_i _ hx
        have hx : x = "repr" := of_decide_eq_true hx
        subst hx
        split
        · rename_i hgd; exact de_reprX O (S.b O e) hs hb hgd
        · exact de_stuck
      · split
        · rename_i B hB
          have hx : B.name = x := by have z := List.find?_some hB; simpa using z
          split
          · rename_i a hr
            split
            · rename_i hx2
              have hx2 : x = "tuple" := of_decide_eq_true hx2
              rw [hx2]
              rw [hx2] at g1 g2
              obtain ⟨r1, r2, p2, q2, rfl⟩ := rgArg_of hr
              obtain ⟨g3, g4⟩ := bltOk_of r1
              exact de_tupRg1 (pe_tupRg O.calm (O.gl g1) (O.blt g2) (prg_1 (O.gl g3) (O.blt g4) (S.e O a) (star1 r2)) rfl)
            · exact de_stuck
          · exact de_stuck
          · have := b1_ok (pos := pos) (p := p) O (S.b O e) hs B (List.mem_of_find?_eq_some hB)
            rw [hx] at this
            exact this g1 g2
        · exact df_de (df_call1 S O) cCallF_lst
  · exact de_stuck
theorem OkX.lambE (O : OkX G k C X Z) {scope : Scope} {A : Around} {outer : List Env} {s : Shared} {H : Hp} {E : XK} {f c' : Addr} (hr : Room (7 * k + 3) (A.deeper (LamX.lamEnv X scope s.heap.objs.size f c'))) : OkX G k (C.lamb scope) (LamX.lamCx X A outer s H E scope f c') ⟨Z.K, Z.lin, wishE E⟩ where
  hN := O.hN
  sc := rfl
  nd := O.nd
  calm := rfl
  hK := O.hK
  lin := O.lin
  tk := takes_of rfl rfl rfl rfl
  room := hr
  room5 := fun z => (nomatch (show false = true from z))
  lam := fun z => (nomatch (show false = true from z))
  gd := fun z => (nomatch (show false = true from z))
  fn := fun x h => (nomatch (show false = true from h))
  g := O.g
def lamDef : Arguments → Option (Option Str × Int)
  | ⟨[], [], none, [], [], none, []⟩ => some (none, 0)
  | ⟨[], [⟨x, none, _⟩], none, [], [], none, [.Constant (.int n) _ _]⟩ => some (some x, n)
  | _ => none
theorem lamDef_of {ps : Arguments} {o : Option Str} {n : Int} (h : lamDef ps = some (o, n)) : LamPs ps o n := by
  unfold lamDef at h
  split at h
  · cases h; exact .none
  · cases h; exact .one
  · cases h
def Cc.ixO (C : Cc) : Option Str → Option Nat
  | none => some 1000
  | some x => C.ix x
def cHeard (G : Gx) (F : CF) (C : Cc) (x : Str) (ps : Arguments) (body : Expr) (scope : Scope) : Ex := match G.hds.find? (fun E => decide (E.name = x)) with
  | some E => (match lamDef ps with
    | some (o, n) => (match C.ixO o with
      | some i => if (C.lm && C.glb x && nmOk x && lamGB C.sc scope o && !C.lin i) = true then xHeard G.cf E.f E.ls G.exB (fun σ S => F.e (C.lamb scope) body (setO o i (.int n) σ) S) else xStuck
      | none => xStuck)
    | none => xStuck)
  | none => xStuck
theorem de_heardA {F : CF} (S : Snd G k F) (O : OkX G k C X Z) {x : Str} {p lp : Pos} {ps : Arguments} {body : Expr} {scope : Scope} : DE X Z (.Call (.Name x p) [.Lambda ps body scope lp] [] pos) (cHeard G F C x ps body scope) := by
  unfold cHeard
  split
  · rename_i E hE
    have hx : E.name = x := by have z := List.find?_some hE; simpa using z
    split
    · rename_i o n hl
      split
      · rename_i i hi
        split
        · rename_i hz
          simp only [Bool.and_eq_true, Bool.not_eq_true', nmOk] at hz
          obtain ⟨⟨⟨⟨h1, h2⟩, h3⟩, h4⟩, h5⟩ := hz
          obtain ⟨a, ga, pg, bg, sg, dV, kV, doc, pm, cdv, ctt, oc, an, od, osl, Ng, f1, f2, f3, f4, f5, f6, f7, f8, f9, f10, f11⟩ := (O.g.hds E (List.mem_of_find?_eq_some hE)).ex
          rw [hx] at f1 f3 f4 f5 f11
          rw [O.hK] at f2 f3 f4 f5
          obtain ⟨LF, hr⟩ := O.lam h1
          exact de_heard (k := 7 * k + 3) (O.gl h2) f1 f2 f3 f4 f5 f6 f7 f8 h3.1 f9 f10 f11 LF (hr.mono (by omega)) (by rw [O.sc]; exact lamG_by h4) (lamDef_of hl) O.nd (fun y ey => by
            subst ey
            exact O.at_ hi) (O.linE h5) O.hK O.tk fun A outer s H E f c' hr' => S.e (O.lambE hr') body
        · exact de_stuck
      · exact de_stuck
    · exact de_stuck
  · exact de_stuck
def cExV (G : Gx) (F : CF) (C : Cc) (x : Str) (es : List Expr) : Ex := match G.exs.find? (fun E => decide (E.name = x)) with
  | some E => if C.glb x = true then (match es, excField E.cn with
    | [e], some _ => if isStar e = true then xStuck else xExc1 E.cn (F.e C e)
    | [], none => xExc0 E.cn
    | _, _ => xStuck) else xStuck
  | none => xStuck
theorem de_exVA {F : CF} (S : Snd G k F) (O : OkX G k C X Z) {x : Str} {es : List Expr} {p cp : Pos} : DE X Z (.Call (.Name x p) es [] cp) (cExV G F C x es) := by
  unfold cExV
  split
  · rename_i E hE
    have hx : E.name = x := by have z := List.find?_some hE; simpa using z
    have q := O.g.exs E (List.mem_of_find?_eq_some hE)
    rw [O.hK] at q
    split
    · rename_i hg
      have hr : Room 1 X.A := O.room.mono (by omega)
      have hm : X.mg x = some (.ref (Z.K.cl E.cn)) := by rw [← hx]; exact q.at_
      split
      · rename_i e f hf
        split
        · exact de_stuck
        · rename_i hs
          have hs : isStar e = false := by simpa using hs
          obtain ⟨fI, fd, p0, p1, p2, p3, p4, p5, p6, p7, p8, p9, txt, kk, Y, J⟩ := q.mk1 f hf
          exact de_exV1 hf (pe_exV1 (exBa E.ov) Y J hr (O.gl hg) hm (S.e O e) (star1 hs) (by rw [← hx]; exact q.nd))
      · rename_i hf
        obtain ⟨fI, fd, p0, p1, p2, p3, p4, p5, txt, kk, Y, J⟩ := q.mk0 hf
        exact de_exV0 hf (pe_exV0 (exBa E.ov) Y J hr (O.gl hg) hm (by rw [← hx]; exact q.nd))
      · exact de_stuck
    · exact de_stuck
  · exact de_stuck
def cExVK (G : Gx) (F : CF) (C : Cc) (x kn : Str) (e : Expr) : Ex := match G.exs.find? (fun E => decide (E.name = x)) with
  | some E => if (C.glb x && decide (excField E.cn = some kn)) = true then xExc1 E.cn (F.e C e) else xStuck
  | none => xStuck
theorem de_exVKA {F : CF} (S : Snd G k F) (O : OkX G k C X Z) {x kn : Str} {e : Expr} {p kp cp : Pos} : DE X Z (.Call (.Name x p) [] [⟨some kn, e, kp⟩] cp) (cExVK G F C x kn e) := by
  unfold cExVK
  split
  · rename_i E hE
    have hx : E.name = x := by have z := List.find?_some hE; simpa using z
    have q := O.g.exs E (List.mem_of_find?_eq_some hE)
    rw [O.hK] at q
    split
    · rename_i hg
      rw [Bool.and_eq_true, decide_eq_true_eq] at hg
      have hr : Room 1 X.A := O.room.mono (by omega)
      have hm : X.mg x = some (.ref (Z.K.cl E.cn)) := by rw [← hx]; exact q.at_
      obtain ⟨fI, fd, p0, p1, p2, p3, p4, p5, p6, p7, p8, p9, txt, kk, Y, J⟩ := q.mk1 kn hg.2
      exact de_exV1 hg.2 (pe_exVK (exBa E.ov) Y J hr (O.gl hg.1) hm (S.e O e) (by rw [← hx]; exact q.nd))
    · exact de_stuck
  · exact de_stuck
def cCall (G : Gx) (F : CF) (C : Cc) (x : Str) (args : List Expr) : Ex := match args with
  | [] => cExV G F C x []
  | [.Lambda ps body scope _] => cHeard G F C x ps body scope
  | e :: es => if (G.exs.any fun E => decide (E.name = x)) = true then cExV G F C x (e :: es) else if G.mod.contains x = true then (if (C.glb x && nmOk x && noStar (e :: es)) = true then cFn G C x (F.a C (e :: es)) else xStuck) else match es with
    | [] => cCall1 G F C x e
    | [t] => if (decide (x = "isinstance") && bltOk G C x && !isStar e) = true then cIsi G C (F.b C e) t else xStuck
    | _ => xStuck
theorem de_callA {F : CF} (S : Snd G k F) (O : OkX G k C X Z) {x : Str} {args : List Expr} {p : Pos} : DE X Z (.Call (.Name x p) args [] pos) (cCall G F C x args) := by
  unfold cCall
  split
  · exact de_exVA S O
  · exact de_heardA S O
  · rename_i e es _
    split
    · exact de_exVA S O
    split
    · split
      · rename_i hz
        simp only [Bool.and_eq_true] at hz
        exact de_fn O (S.a O _) hz.2 hz.1.1 hz.1.2
      · exact de_stuck
    · split
      · exact de_call1 S O
      · rename_i t
        split
        · rename_i hz
          simp only [Bool.and_eq_true, Bool.not_eq_true', decide_eq_true_eq] at hz
          obtain ⟨⟨rfl, h1⟩, h2⟩ := hz
          exact de_isi O (S.b O e) h2 h1
        · exact de_stuck
      · exact de_stuck
def baseOk : Expr → Bool
  | .Name _ _ => true
  | .Subscript _ _ _ => true
  | .Attribute _ _ _ => true
  | .Call _ (_ :: _) _ _ => true
  | .Call _ [] (_ :: _) _ => true
  | _ => false
theorem base_of {f : Str} {env : Env} {w : Sem Value} (h : baseOk e = true) : attributeBase e f env w = w := by
  cases e with
  | Name _ _ => rfl
  | Subscript _ _ _ => rfl
  | Attribute _ _ _ => rfl
  | Call g as ks p =>
    cases as with
    | nil =>
      cases ks with
      | nil => cases h
      | cons _ _ => cases g <;> rfl
    | cons _ _ => cases g <;> rfl
  | _ => cases h
def fldOf (f : Str) : List ClE → Option (ClE × Nat)
  | [] => none
  | E :: r => match E.flds.find? fun p => decide (p.1 = f) with
    | some p => some (E, p.2)
    | none => fldOf f r
def propOf (f : Str) : List ClE → Option (ClE × Nat)
  | [] => none
  | E :: r => match E.props.find? fun p => decide (p.1 = f) with
    | some p => some (E, p.2)
    | none => propOf f r
theorem fldOf_mem {f : Str} : ∀ {l : List ClE} {E : ClE} {i : Nat}, fldOf f l = some (E, i) → E ∈ l ∧ (f, i) ∈ E.flds
  | [], _, _, h => by cases h
  | E :: r, E', i, h => by
    simp only [fldOf] at h
    split at h
    · rename_i p hp
      cases h
      have hx : p.1 = f := by have z := List.find?_some hp; simpa using z
      refine ⟨List.mem_cons_self, ?_⟩
      have := List.mem_of_find?_eq_some hp
      rw [← hx]
      exact this
    · obtain ⟨h1, h2⟩ := fldOf_mem h
      exact ⟨List.mem_cons_of_mem _ h1, h2⟩
theorem propOf_mem {f : Str} : ∀ {l : List ClE} {E : ClE} {i : Nat}, propOf f l = some (E, i) → E ∈ l ∧ (f, i) ∈ E.props
  | [], _, _, h => by cases h
  | E :: r, E', i, h => by
    simp only [propOf] at h
    split at h
    · rename_i p hp
      cases h
      have hx : p.1 = f := by have z := List.find?_some hp; simpa using z
      refine ⟨List.mem_cons_self, ?_⟩
      have := List.mem_of_find?_eq_some hp
      rw [← hx]
      exact this
    · obtain ⟨h1, h2⟩ := propOf_mem h
      exact ⟨List.mem_cons_of_mem _ h1, h2⟩
def cAttr (G : Gx) (e : Expr) (f : Str) (m : Ex) : Ex := if baseOk e = true then (match fldOf f G.cls with
  | some (E, i) => xFld E.cn i m
  | none => match propOf f G.cls with
    | some (E, g) => xProp G.cf g E.cn m
    | none => if (G.exs.any fun E => decide (excField E.cn = some f)) = true then xFldE G.exB f m else xStuck) else xStuck
theorem exB_mem {c : Nat} (h : G.exB c = true) : ∃ E ∈ G.exs, E.cn = c := by
  unfold Gx.exB at h
  obtain ⟨E, h1, h2⟩ := List.any_eq_true.mp h
  exact ⟨E, h1, of_decide_eq_true h2⟩
theorem de_attr (O : OkX G k C X Z) {f : Str} (h : DE X Z e ma) : DE X Z (.Attribute e f pos) (cAttr G e f ma) := by
  unfold cAttr
  split
  · rename_i hb
    split
    · rename_i E i hE
      obtain ⟨h1, h2⟩ := fldOf_mem hE
      have hc := O.g.cls E h1
      obtain ⟨q, hq⟩ := hc.fld _ h2
      exact de_fld (by rw [← O.hK]; exact hc.sc) (by rw [← O.hK]; exact hq) h (base_of hb)
    · split
      · rename_i E g hE
        obtain ⟨h1, h2⟩ := propOf_mem hE
        have hc := O.g.cls E h1
        obtain ⟨fa, q, p1, p2, p3, p4, p5⟩ := hc.prop _ h2
        have e1 := O.hK
        exact de_prop h (by rw [← e1]; exact hc.sc) (by rw [← e1]; exact p1) (by rw [← e1]; exact p2) (by rw [← e1]; exact p3) (by rw [← e1]; exact p4) (by rw [← e1]; exact p5) (O.room.mono (by omega)) (base_of hb)
      · split
        · refine de_xfE (fun c hf hok => ?_) h (base_of hb)
          obtain ⟨E, hE, rfl⟩ := exB_mem hok
          have q := O.g.exs E hE
          rw [← O.hK]
          exact ⟨q.ei, q.fl _ hf⟩
        · exact de_stuck
  · exact de_stuck
def methOf (m : Str) : List ClE → Option (ClE × Nat × Nat)
  | [] => none
  | E :: r => match E.meths.find? fun p => decide (p.1 = m) with
    | some p => some (E, p.2.1, p.2.2)
    | none => methOf m r
theorem methOf_mem {m : Str} : ∀ {l : List ClE} {E : ClE} {f np : Nat}, methOf m l = some (E, f, np) → E ∈ l ∧ (m, f, np) ∈ E.meths
  | [], _, _, _, h => by cases h
  | E :: r, E', f, np, h => by
    simp only [methOf] at h
    split at h
    · rename_i p hp
      cases h
      have hx : p.1 = m := by have z := List.find?_some hp; simpa using z
      refine ⟨List.mem_cons_self, ?_⟩
      have := List.mem_of_find?_eq_some hp
      rw [← hx]
      exact this
    · obtain ⟨h1, h2⟩ := methOf_mem h
      exact ⟨List.mem_cons_of_mem _ h1, h2⟩
theorem few_of {env : Env} {es : List Expr} (h : noStar es = true) (hl : es.length < 20) : methodCallForm (es.length + ([] : List Keyword).length) (backTo pos (starEach es env)) (backToKw pos (keywordEach [] env)) = true := by
  have h1 := star_any (env := env) (pos := pos) h
  have h2 : (backTo pos (starEach es env)).all (fun x => !x.1) = true := by
    rw [List.all_eq_true]
    intro x hx
    cases q : x.1 with
    | false => rfl
    | true =>
      have : (backTo pos (starEach es env)).any (·.1) = true := List.any_eq_true.mpr ⟨x, hx, q⟩
      rw [h1] at this; cases this
  unfold methodCallForm
  rw [h2]
  simp [backToKw, keywordEach]
  omega
def cMethO (G : Gx) (F : CF) (C : Cc) (o : Expr) (m : Str) (ap : Pos) (es : List Expr) (cp : Pos) : Ex := match es with
  | [] => xStuck
  | e :: es => if (baseOk o && noStar (e :: es) && (ap.endLine == cp.line) && decide ((e :: es).length < 20)) = true then (match methOf m G.cls with
    | some (E, f, np) => xMeth G.cf f np E.cn (F.e C o) (F.a C (e :: es))
    | none => xStuck) else xStuck
theorem de_methA {F : CF} (S : Snd G k F) (O : OkX G k C X Z) {o : Expr} {m : Str} {ap : Pos} {es : List Expr} : DE X Z (.Call (.Attribute o m ap) es [] pos) (cMethO G F C o m ap es pos) := by
  unfold cMethO
  split
  · exact de_stuck
  · rename_i e es
    split
    · rename_i hz
      simp only [Bool.and_eq_true, decide_eq_true_eq] at hz
      obtain ⟨⟨⟨h1, h2⟩, h3⟩, h4⟩ := hz
      split
      · rename_i E f np hE
        obtain ⟨q1, q2⟩ := methOf_mem hE
        have hc := O.g.cls E q1
        obtain ⟨fa, r1, r2⟩ := hc.meth _ q2
        have e1 := O.hK
        have hs := h2
        simp only [noStar, Bool.and_eq_true, Bool.not_eq_true'] at hs
        exact de_methO (S.e O o) (by rw [← e1]; exact hc.sc) (by rw [← e1]; exact r1) (by rw [← e1]; exact r2) (O.room.mono (by omega)) O.tk (S.a O _) (star1 hs.1) (star_any hs.2) h3 (few_of h2 h4) (base_of h1)
      · exact de_stuck
    · exact de_stuck
end
end Qi
namespace Qi
open PySem PySem.Spec L2 PyProof.Rows
section
variable {G : Gx} {k : Nat} {C : Cc} {X : Cx} {Z : Env1} {a b c e : Expr} {ma mb mc : Ex} {pos : Pos}
def cPt (F : CF) (C : Cc) : Option Expr → Pt
  | none => pN
  | some e => pS (F.e C e)
theorem pt_of {F : CF} (S : Snd G k F) (O : OkX G k C X Z) (o : Option Expr) : PO X o (lO Z (cPt F C o)) := by
  cases o with
  | none => exact dp_none
  | some e => exact dp_some (S.e O e)
/-- -1 -/
def isM1 : Expr → Bool
  | .UnaryOp .USub (.Constant (.int i) _ _) _ => decide (i = 1)
  | _ => false
theorem isM1_of (h : isM1 e = true) : ∃ kk p1 p2, e = .UnaryOp .USub (.Constant (.int 1) kk p1) p2 := by
  unfold isM1 at h
  split at h
  · have := of_decide_eq_true h
    subst this
    exact ⟨_, _, _, rfl⟩
  · cases h
def cSub (F : CF) (C : Cc) (a b : Expr) : Ex := match b with
  | .Slice lo hi none _ => xSl oSl (F.b C a) (cPt F C lo) (cPt F C hi)
  | .Slice none none (some s) _ => if isM1 s = true then alt (x1 oRev (F.b C a)) (x1 oRevT (F.b C a)) else xStuck
  | .Slice _ _ _ _ => xStuck
  | b => alt (x2 oIx (F.b C a) (F.b C b)) (xGet (F.e C a) (F.e C b))
theorem de_sub {F : CF} (S : Snd G k F) (O : OkX G k C X Z) (a b : Expr) : DE X Z (.Subscript a b pos) (cSub F C a b) := by
  unfold cSub
  split
  · exact de_sl (S.b O a) (pt_of S O _) (pt_of S O _) O.hK
  · split
    · rename_i h
      obtain ⟨kk, p1, p2, rfl⟩ := isM1_of h
      exact de_alt (df_de (df_rev (S.b O a) O.hK) (isl1 l_rev)) (de_revT (S.b O a) O.hK)
    · exact de_stuck
  · exact de_stuck
  · rename_i h1 h2 h3
    have hs : isSlice b = false := by
      cases b with
      | Slice lo hi st p => exact (h3 lo hi st p rfl).elim
      | _ => rfl
    exact de_alt (de_ix (S.b O a) (S.b O _) (plain_ix hs) O.hK) (de_get (by have := O.un; omega) (S.e O a) (S.e O _) (no_sl hs))
def cSubF (F : CF) (C : Cc) (a b : Expr) : Ex := match b with
  | .Slice lo hi none _ => toL (xSl oSl (F.b C a) (cPt F C lo) (cPt F C hi))
  | .Slice none none (some s) _ => if isM1 s = true then x1 oRev (F.b C a) else xStuck
  | _ => xStuck
theorem df_sub {F : CF} (S : Snd G k F) (O : OkX G k C X Z) (a b : Expr) : DF X Z (.Subscript a b pos) (cSubF F C a b) := by
  unfold cSubF
  split
  · exact df_toL (df_sl (S.b O a) (pt_of S O _) (pt_of S O _) O.hK)
  · split
    · rename_i h
      obtain ⟨kk, p1, p2, rfl⟩ := isM1_of h
      exact df_rev (S.b O a) O.hK
    · exact df_stuck
  · exact df_stuck
theorem cSubF_lst {F : CF} {a b : Expr} : IsL (cSubF F C a b) := by
  unfold cSubF
  split
  · exact toL_lst
  · split
    · exact isl1 l_rev
    · exact stuck_lst
  · exact stuck_lst
def cPairs (F : CF) (C : Cc) : List (Option Expr) → List Expr → Option (List (Key × Ex))
  | [], [] => some []
  | some (.Constant (.str s) _ _) :: ks, v :: vs => match cPairs F C ks vs with
    | some r => some ((.inr s, F.e C v) :: r)
    | none => none
  | some (.Constant (.int s) _ _) :: ks, v :: vs => match cPairs F C ks vs with
    | some r => some ((.inl s, F.e C v) :: r)
    | none => none
  | _, _ => none
theorem pps_of {F : CF} (S : Snd G k F) (O : OkX G k C X Z) : ∀ {ks : List (Option Expr)} {vs : List Expr} {ps : List (Key × Ex)}, cPairs F C ks vs = some ps → PPs X pos ks vs (ps.map fun p => (tC (kV p.1), lE Z p.2)) ∧ ks.all (·.isSome) = true ∧ ks.length = vs.length ∧ ks.length = ps.length
  | [], [], ps, h => by cases h; exact ⟨pps_nil, rfl, rfl, rfl⟩
  | kk :: ks, v :: vs, ps, h => by
    unfold cPairs at h
    split at h
    · rename_i heq _; cases heq
    · rename_i s k1 p1 ks' v' vs' heq1 heq2
      cases heq1
      cases heq2
      split at h
      · rename_i r hr
        cases h
        obtain ⟨h1, h2, h3, h4⟩ := pps_of S O hr
        exact ⟨pps_cons pe_str (S.e O v) h1, by simpa using h2, by simp [h3], by simp [h4]⟩
      · cases h
    · rename_i s k1 p1 ks' v' vs' heq1 heq2
      cases heq1
      cases heq2
      split at h
      · rename_i r hr
        cases h
        obtain ⟨h1, h2, h3, h4⟩ := pps_of S O hr
        exact ⟨pps_cons pe_int (S.e O v) h1, by simpa using h2, by simp [h3], by simp [h4]⟩
      · cases h
    · cases h
  | [], _ :: _, ps, h => by unfold cPairs at h; cases h
  | kk :: ks, [], ps, h => by unfold cPairs at h; split at h <;> first | (rename_i h1 h2; cases h1; done) | (rename_i h1 h2; cases h2; done) | cases h
def nodupK : List Key → Bool
  | [] => true
  | x :: r => r.all (fun y => !decide (x = y)) && nodupK r
theorem nodupK_of : ∀ {l : List Key}, nodupK l = true → l.Nodup
  | [], _ => .nil
  | x :: r, h => by
    simp only [nodupK, Bool.and_eq_true] at h
    refine List.nodup_cons.mpr ⟨fun z => ?_, nodupK_of h.2⟩
    have := List.all_eq_true.mp h.1 x z
    simp at this
def cDict (F : CF) (C : Cc) (ks : List (Option Expr)) (vs : List Expr) : Ex := match cPairs F C ks vs with
  | some [] => xEmp
  | some (p :: ps) => if (nodupK ((p :: ps).map (·.1)) && decide ((p :: ps).length ≤ 15)) = true then xDisp (p :: ps) else xStuck
  | none => xStuck
theorem de_dict {F : CF} (S : Snd G k F) (O : OkX G k C X Z) {ks : List (Option Expr)} {vs : List Expr} : DE X Z (.Dict ks vs pos) (cDict F C ks vs) := by
  unfold cDict
  split
  · rename_i h
    obtain ⟨h1, h2, h3, h4⟩ := pps_of (pos := pos) S O h
    have e1 : ks = [] := List.eq_nil_of_length_eq_zero h4
    subst e1
    have e2 : vs = [] := List.eq_nil_of_length_eq_zero h3.symm
    subst e2
    exact de_emp
  · rename_i p ps h
    split
    · rename_i hz
      simp only [Bool.and_eq_true, decide_eq_true_eq] at hz
      obtain ⟨h1, h2, h3, h4⟩ := pps_of (pos := pos) S O h
      exact de_disp (pe_disp h1 h2 h3 (by intro z; rw [z] at h4; cases h4) (by rw [h4]; exact hz.2)) (nodupK_of hz.1) hz.2
    · exact de_stuck
  · exact de_stuck
def cBx (C : Cc) (p : Pos) (m : Ex) : Ex := if C.bx.contains (p.line, p.col) = true then xBox m else m
theorem de_bx (h : DF X Z e ma) (hl : IsL ma) (p : Pos) : DE X Z e (cBx C p ma) := by
  unfold cBx
  split
  · exact de_box h
  · exact df_de h hl
def stE (G : Gx) (F : CF) (C : Cc) (e : Expr) : Ex := match e with
  | .Constant (.int i) _ _ => xC (.int i)
  | .Constant (.bool i) _ _ => xC (.bl i)
  | .Constant .none _ _ => xC .non
  | .Constant (.str i) _ _ => xC (.str i)
  | .Name x _ => cNm G C x
  | .BinOp a op b _ => cBin op (F.b C a) (F.b C b)
  | .UnaryOp .Not a _ => xN (F.e C a)
  | .UnaryOp .USub a _ => x1 oNeg (F.b C a)
  | .BoolOp .And [a] _ => F.e C a
  | .BoolOp .Or [a] _ => F.e C a
  | .BoolOp .And (a :: b :: r) p => xA (F.e C a) (F.e C (.BoolOp .And (b :: r) p))
  | .BoolOp .Or (a :: b :: r) p => xO (F.e C a) (F.e C (.BoolOp .Or (b :: r) p))
  | .IfExp c a b _ => xI (F.t C c) (F.e C a) (F.e C b)
  | .Compare a [op] [b] _ => if isSetD b = true then xStuck else cCmpZ G C op (F.b C a) (F.b C b) (F.e C a) (F.e C b)
  | .Compare a [op, op'] [b, c] _ => if isSetD c = true then xStuck else cChain op op' (F.e C a) (F.e C b) (F.e C c)
  | .Tuple es _ _ => xL oTupS (F.a C es)
  | .List es p => cBx C p (F.f C (.List es p))
  | .ListComp elt gs sc p => cBx C p (F.f C (.ListComp elt gs sc p))
  | .Subscript a b _ => cSub F C a b
  | .Attribute e f _ => cAttr G e f (F.e C e)
  | .Call (.Name x _) args [] _ => cCall G F C x args
  | .Call (.Attribute o m ap) es [] cp => cMethO G F C o m ap es cp
  | .Call (.Name x p) [a] [⟨some kn, .Lambda ps body sc lp, kp⟩] q => F.f C (.Call (.Name x p) [a] [⟨some kn, .Lambda ps body sc lp, kp⟩] q)
  | .Call (.Name x _) [] [⟨some kn, e, _⟩] _ => cExVK G F C x kn e
  | .Dict ks vs _ => cDict F C ks vs
  | _ => xStuck
theorem stE_ok {F : CF} (S : Snd G k F) (O : OkX G k C X Z) (e : Expr) : DE X Z e (stE G F C e) := by
  unfold stE
  split
  · exact de_int
  · exact de_bl
  · exact de_non
  · exact de_str
  · exact de_nm O
  · exact de_bin O (S.b O _) (S.b O _)
  · exact de_not (S.e O _)
  · exact de_un pr_neg un_neg (S.b O _) O.hK
  · exact de_one (S.e O _)
  · exact de_one (S.e O _)
  · exact de_and (S.e O _) (S.e O _)
  · exact de_or (S.e O _) (S.e O _)
  · exact de_if (S.t O _) (S.e O _) (S.e O _)
  · split
    · exact de_stuck
    · rename_i h; exact de_cmpZ O (S.b O _) (S.b O _) (S.e O _) (S.e O _) (by simpa using h)
  · split
    · exact de_stuck
    · rename_i h; exact de_chainA O (S.e O _) (S.e O _) (S.e O _) (by simpa using h)
  · exact de_tupS (S.a O _)
  · exact de_bx (S.f O _) (S.fl _ _) _
  · exact de_bx (S.f O _) (S.fl _ _) _
  · exact de_sub S O _ _
  · exact de_attr O (S.e O _)
  · exact de_callA S O
  · exact de_methA S O
  · exact df_de (S.f O _) (S.fl _ _)
  · exact de_exVKA S O
  · exact de_dict S O
  · exact de_stuck
def stB (G : Gx) (F : CF) (C : Cc) (e : Expr) : Ex := match e with
  | .Name x _ => cNmB G C x
  | .IfExp c a b _ => xI (F.t C c) (F.b C a) (F.b C b)
  | e => F.e C e
theorem stB_ok {F : CF} (S : Snd G k F) (O : OkX G k C X Z) (e : Expr) : DB X Z e (stB G F C e) := by
  unfold stB
  split
  · exact db_nm O
  · exact db_if (S.t O _) (S.b O _) (S.b O _)
  · exact de_db (S.e O _)
def stF (G : Gx) (F : CF) (C : Cc) (e : Expr) : Ex := match e with
  | .List es _ => xL oLstS (F.a C es)
  | .ListComp elt [⟨tg, iter, ifs, 0⟩] scope _ => cLc F C elt tg iter ifs scope
  | .ListComp elt [⟨tg, iter, ifs, 0⟩, ⟨tg1, iter1, ifs1, 0⟩] scope _ => cLc2 F C elt tg iter ifs tg1 iter1 ifs1 scope
  | .Subscript a b _ => cSubF F C a b
  | .BinOp a .Add b _ => toL (x2 oAdd (F.b C a) (F.b C b))
  | .IfExp c a b _ => xI (F.t C c) (F.f C a) (F.f C b)
  | .Call (.Name x _) [e] [] _ => cCallF G F C x e
  | .Call (.Name x _) [a] [⟨some kn, .Lambda ps body sc _, _⟩] _ => cSortK G F C x kn a ps body sc
  | _ => xStuck
theorem stF_ok {F : CF} (S : Snd G k F) (O : OkX G k C X Z) (e : Expr) : DF X Z e (stF G F C e) := by
  unfold stF
  split
  · exact df_lstS (S.a O _)
  · exact df_lcA S O
  · exact df_lc2A S O
  · exact df_sub S O _ _
  · exact df_toL (df_op pr_addF op_cat (S.b O _) (S.b O _) O.hK)
  · exact df_if (S.t O _) (S.f O _) (S.f O _)
  · exact df_call1 S O
  · exact df_sortKA S O
  · exact df_stuck
theorem stF_lst {F : CF} (S : Snd G k F) (C : Cc) (e : Expr) : IsL (stF G F C e) := by
  unfold stF
  split
  · exact xLS_lst
  · exact cLc_lst
  · exact cLc2_lst
  · exact cSubF_lst
  · exact toL_lst
  · exact xI_lst (S.fl _ _) (S.fl _ _)
  · exact cCallF_lst
  · exact cSortK_lst
  · exact stuck_lst
def stT (G : Gx) (F : CF) (C : Cc) (e : Expr) : Ts := match e with
  | .UnaryOp .Not a _ => tN (F.t C a)
  | .BoolOp op vs p => F.w C (.BoolOp op vs p)
  | .Compare a [op] [b] _ => if isSetD b = true then tStuck else tE (cCmpY G C op (F.b C a) (F.b C b))
  | .Compare a [op, op'] [b, c] _ => if isSetD c = true then tStuck else tE (cChain op op' (F.e C a) (F.e C b) (F.e C c))
  | e => if plainT e = true then tE (F.e C e) else tStuck
theorem stT_ok {F : CF} (S : Snd G k F) (O : OkX G k C X Z) (e : Expr) : DT X Z e (stT G F C e) := by
  unfold stT
  split
  · exact dt_not (S.t O _)
  · exact dt_w (S.w O _)
  · split
    · exact dt_stuck
    · rename_i h; exact dt_cmpX O (S.b O _) (S.b O _) (by simpa using h)
  · split
    · exact dt_stuck
    · rename_i h; exact dt_chainA O (S.e O _) (S.e O _) (S.e O _) (by simpa using h)
  · split
    · rename_i h; exact dt_val (S.e O _) (truth_of h)
    · exact dt_stuck
def stW (F : CF) (C : Cc) (e : Expr) : Ts := match e with
  | .BoolOp .And [a] _ => F.t C a
  | .BoolOp .Or [a] _ => F.t C a
  | .BoolOp .And (a :: b :: r) p => tA (F.t C a) (F.w C (.BoolOp .And (b :: r) p))
  | .BoolOp .Or (a :: b :: r) p => tO (F.t C a) (F.w C (.BoolOp .Or (b :: r) p))
  | _ => tStuck
theorem stW_ok {F : CF} (S : Snd G k F) (O : OkX G k C X Z) (e : Expr) : DW X Z e (stW F C e) := by
  unfold stW
  split
  · exact dw_and1 (S.t O _)
  · exact dw_or1 (S.t O _)
  · exact dw_and (S.t O _) (S.w O _)
  · exact dw_or (S.t O _) (S.w O _)
  · exact dw_stuck
def stA (F : CF) (C : Cc) (es : List Expr) : Ag := match es with
  | [] => aN
  | .Starred e _ :: es => aS (F.b C e) (F.a C es)
  | e :: es => aC (F.e C e) (F.a C es)
theorem stA_ok {F : CF} (S : Snd G k F) (O : OkX G k C X Z) (es : List Expr) : DA X Z es (stA F C es) := by
  unfold stA
  split
  · exact da_nil
  · exact da_star (S.b O _) (S.a O _) rfl O.hK
  · rename_i e es h
    refine da_cons (S.e O _) (S.a O _) (star1 ?_)
    cases e with
    | Starred x p => exact absurd rfl (h x p)
    | _ => rfl
def step (G : Gx) (F : CF) : CF := ⟨stE G F, stB G F, stF G F, stT G F, stW F, stA F, stI G F⟩
theorem snd_step {F : CF} (S : Snd G k F) : Snd G k (step G F) := ⟨fun O => stE_ok S O, fun O => stB_ok S O, fun O => stF_ok S O, fun O => stT_ok S O, fun O => stW_ok S O, fun O => stA_ok S O, fun O => stI_ok S O, fun C e => stF_lst S C e⟩
def cAllF (G : Gx) : Nat → CF
  | 0 => CF0
  | n + 1 => step G (cAllF G n)
theorem snd_all : ∀ n, Snd G k (cAllF G n)
  | 0 => snd0
  | n + 1 => snd_step (snd_all n)
end
end Qi
namespace Qi
open PySem PySem.Spec L2 PyProof.Rows
structure OkS (G : Gx) (k : Nat) (C : Cc) (X : Cx) (Z : Env1) : Prop where
  x : OkX G k C X Z
  hp : PassesOwn (model X.prog X.w) X.A X.env X.xe
def isComp : Expr → Bool
  | .ListComp .. => true
  | .SetComp .. => true
  | .DictComp .. => true
  | _ => false
theorem sw_no {e : Expr} {t : Option Expr} {line : Nat} {env : Env} (h : isComp e = false) : swapsWith e t line env = pure false := by
  cases e <;> first | rfl | cases h
def isNm : Expr → Bool
  | .Name _ _ => true
  | _ => false
theorem sw_tg {e t : Expr} {line : Nat} {env : Env} (h : isNm t = false) : swapsWith e (some t) line env = pure false := by
  cases t with
  | Name x p => cases h
  | _ => cases e <;> rfl
def blkF (C : Cc) : Bool := (if C.sc.kind.isAnnotationScope then ScopeKind.function else C.sc.kind) == .function
def swL (C : Cc) (sc : Scope) (p : Pos) (t : Str) (tp : Pos) : Bool := blkF C && C.sc.names.lookup t == some .local && tp.line == p.line && !(sc.names.any fun x => x.1 == t && (x.2 == .local || x.2 == .cell))
section
variable {G : Gx} {k : Nat} {C : Cc} {X : Cx} {Z : Env1} {a b c e : Expr} {ma mb mc : Ex} {pos : Pos}
theorem sw_lc (O : OkX G k C X Z) {elt : Expr} {gs : List Comprehension} {sc : Scope} {p tp : Pos} {t : Str} {line : Nat} : swapsWith (.ListComp elt gs sc p) (some (.Name t tp)) line X.env = pure (swL C sc p t tp) := by
  unfold swL blkF
  rw [← O.sc]
  rfl
end
section
variable {X : Cx} {Z : Env1}
theorem ds_parT {st : Stmt} {is : List Nat} {ks : List Bool} {ms : Ag} (hp : PS X st (tAsg (tTup (lM Z ks ms)) (gT X.K (.tp is)))) (hz : is.length ≤ 100) (hk : is.map Z.lin = ks) : DS X Z st (cPar is ms) := PS.imp hp fun D σV H => by
  rintro ⟨g, j, σ, S, R, h⟩
  refine ⟨g, j, σ, S, R, ?_⟩
  unfold cPar at h
  generalize ms σ S = r at h
  cases r with
  | ok ds S1 =>
    intro j1 vs as H1 R1 s1 rm hn
    dsimp only [Res.bind] at h
    cases q : setsD is ds σ with
    | none => rw [q] at h; exact h.elim
    | some σ' =>
      rw [q] at h
      obtain ⟨R', le', e⟩ := setM_rel hk R1 rm (fun a ha => ⟨R.fresh (hn a ha), notB R (hn a ha)⟩) q
      refine ⟨by rw [e]; unfold sizeLine; omega, fun p hp => ⟨p, vs, rfl, .inl (.inl upd_same), e, ?_⟩⟩
      exact h j1 _ _ (R'.alloc hp) (((le_holds s1 hn).trans le').trans (le_alloc hp))
  | exc x S1 => exact fun j' cls dd H' R' _ rx => h j' cls dd σV H' R'.drop (rx.mono le_drop)
  | stuck => exact h
end
section
variable {G : Gx} {k : Nat} {C : Cc} {X : Cx} {Z : Env1} {a b c e : Expr} {ma mb mc : Ex} {pos : Pos}
def lk (C : Cc) (x : Str) : Bool := C.sc.names.lookup x == some .local
def sw2 (C : Cc) (x y : Str) (px py : Pos) (es : List Expr) : Bool := blkF C && lk C x && lk C y && py.line == px.line && !(x == y) && noStar es && !(es.all (foldedForSure 8)) && !(es.all (constantsAlone 8))
def sw3 (C : Cc) (x y z : Str) (px py pz : Pos) (es : List Expr) : Bool := blkF C && lk C x && lk C y && lk C z && py.line == px.line && pz.line == px.line && !(x == y) && !(x == z) && !(y == z) && noStar es && !(es.all (foldedForSure 8)) && !(es.all (constantsAlone 8))
def allLk (C : Cc) : List Expr → Bool
  | [] => true
  | .Name x _ :: r => lk C x && allLk C r
  | _ => false
/-- surely not swapped -/
def swN (C : Cc) (ts es : List Expr) : Bool := !(ts.length == 2 || ts.length == 3) || !allLk C ts || es.all (foldedForSure 8)
theorem sws2 (O : OkX G k C X Z) {x y : Str} {px py pt p2 : Pos} {kt k2 : Nat} (h : sw2 C x y px py [a, b] = true) : swappedStores [.Tuple [.Name x px, .Name y py] kt pt] (.Tuple [a, b] k2 p2) X.env = pure (some [x, y]) := by
  unfold sw2 blkF lk at h
  simp only [Bool.and_eq_true, Bool.not_eq_true'] at h
  obtain ⟨⟨⟨⟨⟨⟨⟨h1, h2⟩, h3⟩, h4⟩, h5⟩, h6⟩, h7⟩, h8⟩ := h
  rw [← O.sc] at h1 h2 h3
  simp only [noStar, Bool.and_eq_true, Bool.not_eq_true'] at h6
  have hxy : ¬ y = x := fun z => by rw [z] at h5; simp at h5
  have e1 : X.env.blockKind = .function := by unfold Env.blockKind; simpa using h1
  have k1 : X.env.kindOf x = some NameKind.local := by unfold Env.kindOf; simpa using h2
  have k2 : X.env.kindOf y = some NameKind.local := by unfold Env.kindOf; simpa using h3
  unfold swappedStores
  show (if (!(true || false) || false || X.env.blockKind != .function) = true then pure none else _) = _
  rw [e1, if_neg (by decide), if_neg (by
    intro hz
    simp only [List.any_cons, List.any_nil, Bool.or_false, Bool.or_eq_true] at hz
    rcases hz with hz | hz
    · split at hz
      · cases h6.1
      · cases hz
    · split at hz
      · cases h6.2.1
      · cases hz)]
  simp only [List.filterMap_cons, List.filterMap_nil, k1, k2, List.head?_cons, Option.map_some, Option.getD_some, Expr.pos, h4, beq_self_eq_true, Bool.and_true, if_true]
  simp [List.eraseDups_cons, hxy, h7, h8]
theorem sws3 (O : OkX G k C X Z) {x y z : Str} {px py pz pt p2 : Pos} {kt k2 : Nat} (h : sw3 C x y z px py pz [a, b, c] = true) : swappedStores [.Tuple [.Name x px, .Name y py, .Name z pz] kt pt] (.Tuple [a, b, c] k2 p2) X.env = pure (some [x, y, z]) := by
  unfold sw3 blkF lk at h
  simp only [Bool.and_eq_true, Bool.not_eq_true'] at h
  obtain ⟨⟨⟨⟨⟨⟨⟨⟨⟨⟨⟨h1, h2⟩, h3⟩, h3z⟩, h4⟩, h4z⟩, h5⟩, h5b⟩, h5c⟩, h6⟩, h7⟩, h8⟩ := h
  rw [← O.sc] at h1 h2 h3 h3z
  simp only [noStar, Bool.and_eq_true, Bool.not_eq_true'] at h6
  have hxy : ¬ y = x := fun z => by rw [z] at h5; simp at h5
  have hxz : ¬ z = x := fun z => by rw [z] at h5b; simp at h5b
  have hyz : ¬ z = y := fun z => by rw [z] at h5c; simp at h5c
  have e1 : X.env.blockKind = .function := by unfold Env.blockKind; simpa using h1
  have k1 : X.env.kindOf x = some NameKind.local := by unfold Env.kindOf; simpa using h2
  have k2 : X.env.kindOf y = some NameKind.local := by unfold Env.kindOf; simpa using h3
  have k3 : X.env.kindOf z = some NameKind.local := by unfold Env.kindOf; simpa using h3z
  unfold swappedStores
  show (if (!(false || true) || false || X.env.blockKind != .function) = true then pure none else _) = _
  rw [e1, if_neg (by decide), if_neg (by
    intro hz
    simp only [List.any_cons, List.any_nil, Bool.or_false, Bool.or_eq_true] at hz
    rcases hz with hz | hz | hz
    · split at hz
      · cases h6.1
      · cases hz
    · split at hz
      · cases h6.2.1
      · cases hz
    · split at hz
      · cases h6.2.2.1
      · cases hz)]
  simp only [List.filterMap_cons, List.filterMap_nil, k1, k2, k3, List.head?_cons, Option.map_some, Option.getD_some, Expr.pos, h4, h4z, beq_self_eq_true, Bool.and_true, if_true]
  simp [List.eraseDups_cons, hxy, hxz, hyz, h7, h8]
theorem allLk_len (O : OkX G k C X Z) (line : Nat) : ∀ {ts : List Expr} {f : Expr → Option Str}, (∀ x p, f (.Name x p) = if (X.env.kindOf x == some .local && p.line == line) = true then some x else none) → (∀ e, isNm e = false → f e = none) → allLk C ts = false → (ts.filterMap f).length ≠ ts.length
  | [], _, _, _, h => by cases h
  | e :: ts, f, h1, h2, h => by
    have hle : (ts.filterMap f).length ≤ ts.length := List.length_filterMap_le _ _
    have bad : f e = none → ((e :: ts).filterMap f).length ≠ (e :: ts).length := fun z => by
      rw [List.filterMap_cons, z]
      simp only [List.length_cons]
      omega
    cases e with
    | Name x p =>
      simp only [allLk, Bool.and_eq_false_iff] at h
      rcases h with h | h
      · refine bad ?_
        rw [h1]
        unfold lk at h
        rw [← O.sc] at h
        have : (X.env.kindOf x == some .local) = false := h
        rw [this]; rfl
      · have ih := allLk_len O line h1 h2 h
        cases q : f (.Name x p) with
        | none => exact bad q
        | some y =>
          rw [List.filterMap_cons, q]
          simp only [List.length_cons]
          omega
    | _ => exact bad (h2 _ rfl)
theorem sws_none (O : OkX G k C X Z) {ts es : List Expr} {pt p2 : Pos} {kt k2 : Nat} (h : swN C ts es = true) : swappedStores [.Tuple ts kt pt] (.Tuple es k2 p2) X.env = pure none := by
  unfold swappedStores
  dsimp only
  split
  · rfl
  · rename_i hn1
    split
    · rfl
    · split
      · rfl
      · rename_i hn3
        split
        · rfl
        · rename_i hn4
          exfalso
          unfold swN at h
          simp only [Bool.or_eq_true, Bool.not_eq_true'] at h
          simp only [Bool.or_eq_true, Bool.not_eq_true', not_or] at hn1
          rcases h with (h | h) | h
          · exact hn1.1.1 h
          · simp only [Bool.or_eq_true, not_or, bne_iff_ne, ne_eq, Decidable.not_not] at hn3
            refine absurd hn3.1 (allLk_len O ((ts.head?.map (·.pos.line)).getD 0) ?_ ?_ h)
            · intro x p; rfl
            · intro e he; cases e <;> first | rfl | cases he
          · exact hn4 h
end
end Qi
namespace Qi
open PySem PySem.Spec L2 PyProof.Rows
section
variable {G : Gx} {k : Nat} {C : Cc} {X : Cx} {Z : Env1} {a b c e : Expr} {ma mb mc : Ex} {pos : Pos}
theorem lE_box {σV : L2.St} {H : Hp} {Q : VK} : lE Z (xBox ma) σV H Q → lF Z ma σV H Q := by
  rintro ⟨g, j, σ, S, R, h⟩
  refine ⟨g, j, σ, S, R, ?_⟩
  unfold xBox at h
  generalize ma σ S = r at h
  match r, h with
  | .ok (.lst ds) S1, h =>
    intro j1 p vs H1 hp R1 s1 hl rd hn
    have R2 := R1.box (c := .lst ds) (.lst hp hl rd) (R.fresh hn) (notB R hn)
    refine h (putJ j1 S1.length p) (.ref p) H1 R2 (s1.box hn) ?_
    have e : p = putJ j1 S1.length p S1.length := putJ_eq.symm
    have r : RD (wz Z g (putJ j1 S1.length p) σ (S1 ++ [.lst ds]) σV H1) (.ref S1.length) (.ref (putJ j1 S1.length p S1.length)) := .ref (by show S1.length < (S1 ++ [Cell.lst ds]).length; simp)
    rw [putJ_eq] at r
    exact r
  | .exc x S1, h => exact h
  | .stuck, h => exact h
  | .ok .non _, h => exact h.elim
  | .ok (.bl _) _, h => exact h.elim
  | .ok (.int _) _, h => exact h.elim
  | .ok (.str _) _, h => exact h.elim
  | .ok (.tup _) _, h => exact h.elim
  | .ok (.dic _) _, h => exact h.elim
  | .ok (.ref _) _, h => exact h.elim
  | .ok (.obj _ _) _, h => exact h.elim
  | .ok (.exc _ _) _, h => exact h.elim
  | .ok (.clo _ _) _, h => exact h.elim
  | .ok (.scr _) _, h => exact h.elim
theorem lE_bx {p : Pos} (hl : IsL ma) {σV : L2.St} {H : Hp} {Q : VK} (h : lE Z (cBx C p ma) σV H Q) : lF Z ma σV H Q := by
  unfold cBx at h
  split at h
  · exact lE_box h
  · exact lE_lF hl h
def cArgsM (F : CF) (C : Cc) : List Nat → List Expr → Option Ag
  | [], [] => some aN
  | i :: is, e :: es => if isStar e = true then none else (match cArgsM F C is es with
    | some r => some (if C.lin i = true then aF (F.f C e) r else aC (F.e C e) r)
    | none => none)
  | _, _ => none
theorem dm_of {F : CF} (S : Snd G k F) (O : OkX G k C X Z) : ∀ {is : List Nat} {es : List Expr} {m : Ag}, cArgsM F C is es = some m → DM X Z es (is.map Z.lin) m ∧ es.length = is.length
  | [], [], m, h => by cases h; exact ⟨dm_nil, rfl⟩
  | i :: is, e :: es, m, h => by
    simp only [cArgsM] at h
    split at h
    · cases h
    · rename_i hs
      have hs : isStar e = false := by simpa using hs
      split at h
      · rename_i r hr
        cases h
        obtain ⟨h1, h2⟩ := dm_of S O hr
        refine ⟨?_, by simp [h2]⟩
        rw [List.map_cons]
        split
        · rename_i hl
          rw [O.linE hl]
          exact dm_new (S.f O e) h1 (star1 hs)
        · rename_i hl
          rw [O.linE (by simpa using hl : C.lin i = false)]
          exact dm_val (S.e O e) h1 (star1 hs)
      · cases h
  | [], _ :: _, m, h => by cases h
  | _ :: _, [], m, h => by cases h
/-- names = values, at once -/
def cParS (F : CF) (C : Cc) (ts es : List Expr) : Co := match tgN C ts with
  | none => cStuck
  | some is => match cArgsM F C is es with
    | none => cStuck
    | some m => if (swN C ts es && decide (is.length ≤ 100)) = true then cPar is m else (match ts, is, es with
      | [.Name x px, .Name y py], [i, j], [a, b] => if (sw2 C x y px py [a, b] && decide (i ≠ j)) = true then cPar [i, j] m else cStuck
      | [.Name x px, .Name y py, .Name z pz], [i, j, l], [a, b, c] => if (sw3 C x y z px py pz [a, b, c] && decide (i ≠ j) && decide (i ≠ l) && decide (j ≠ l)) = true then cPar [i, j, l] m else cStuck
      | _, _, _ => cStuck)
theorem tgN2 {x y : Str} {px py : Pos} {i j : Nat} (h : tgN C [.Name x px, .Name y py] = some [i, j]) : C.st x = some i ∧ C.st y = some j := by
  simp only [tgN] at h
  split at h
  · rename_i i1 is1 h1 h2
    split at h2
    · rename_i i2 is2 h3 h4
      cases h4
      cases h2
      cases h
      exact ⟨h1, h3⟩
    · cases h2
  · cases h
theorem tgN3 {x y z : Str} {px py pz : Pos} {i j l : Nat} (h : tgN C [.Name x px, .Name y py, .Name z pz] = some [i, j, l]) : C.st x = some i ∧ C.st y = some j ∧ C.st z = some l := by
  simp only [tgN] at h
  split at h
  · rename_i i1 is1 h1 h2
    split at h2
    · rename_i i2 is2 h3 h4
      split at h4
      · rename_i i3 is3 h5 h6
        cases h6
        cases h4
        cases h2
        cases h
        exact ⟨h1, h3, h5⟩
      · cases h4
    · cases h2
  · cases h
theorem ds_parS {F : CF} (S : Snd G k F) (O : OkX G k C X Z) {ts es : List Expr} {kt k2 : Nat} {pt p2 : Pos} : DS X Z (.Assign [.Tuple ts kt pt] (.Tuple es k2 p2) pos) (cParS F C ts es) := by
  unfold cParS
  split
  · exact ds_stuck
  · rename_i is hts
    split
    · exact ds_stuck
    · rename_i m hm
      obtain ⟨D, hlen⟩ := dm_of S O hm
      split
      · rename_i hz
        simp only [Bool.and_eq_true, decide_eq_true_eq] at hz
        have hg : PG X (.Tuple ts kt pt) (gT X.K (.tp is)) := pg_of O (by show Option.map Tgt.tp (tgN C ts) = _; rw [hts]; rfl)
        exact ds_parT (ps_asg (pe_tup D) hg rfl (sws_none O hz.1) rfl) hz.2 rfl
      · split
        · rename_i x px y py i j a b
          split
          · rename_i hz
            simp only [Bool.and_eq_true, decide_eq_true_eq] at hz
            obtain ⟨s1, s2⟩ := tgN2 hts
            obtain ⟨q1, q2, q3⟩ := O.st s1
            obtain ⟨r1, r2, r3⟩ := O.st s2
            exact ds_par2 (par2 O.nd D hz.2 O.calm q1 r1 q2 r2 q3 r3 (sws2 O hz.1) rfl) rfl
          · exact ds_stuck
        · rename_i x px y py z pz i j l a b c
          split
          · rename_i hz
            simp only [Bool.and_eq_true, decide_eq_true_eq] at hz
            obtain ⟨s1, s2, s3⟩ := tgN3 hts
            obtain ⟨q1, q2, q3⟩ := O.st s1
            obtain ⟨r1, r2, r3⟩ := O.st s2
            obtain ⟨t1, t2, t3⟩ := O.st s3
            exact ds_par3 (par3 O.nd D hz.1.1.2 hz.1.2 hz.2 O.calm q1 r1 t1 q2 r2 t2 q3 r3 t3 (sws3 O hz.1.1.1) rfl) rfl
          · exact ds_stuck
        · exact ds_stuck
end
end Qi
namespace Qi
open PySem PySem.Spec L2 PyProof.Rows
section
variable {G : Gx} {k : Nat} {C : Cc} {X : Cx} {Z : Env1} {a b c e : Expr} {ma mb mc : Ex} {pos : Pos}
theorem ds_swLc {F : CF} (S : Snd G k F) (O : OkX G k C X Z) {x : Str} {xp p : Pos} {i : Nat} {elt tg iter : Expr} {ifs : List Expr} {scope : Scope} {n : Ex → Co} (hn : ∀ {m : Ex} {te : TE} {st : Stmt}, IsL m → (∀ σ H Q, lF Z m σ H Q → te σ H Q) → PS X st (tAsg te (gName i)) → DS X Z st (n m)) (hst : n xStuck = cStuck ∨ ∀ st, DS X Z st (n xStuck)) (hx : C.st x = some i) (hs : swL C scope p x xp = true) :
    DS X Z (.Assign [.Name x xp] (.ListComp elt [⟨tg, iter, ifs, 0⟩] scope p) pos) (n (cLc F C elt tg iter ifs scope)) := by
  have stk : ∀ st, DS X Z st (n xStuck) := fun st => by
    rcases hst with h | h
    · rw [h]; exact ds_stuck
    · exact h st
  have hsw := sw_lc O (elt := elt) (gs := [⟨tg, iter, ifs, 0⟩]) (sc := scope) (p := p) (tp := xp) (t := x) (line := pos.line)
  rw [hs] at hsw
  have hloc : X.env.scope.names.lookup x = some .local := by
    unfold swL at hs
    simp only [Bool.and_eq_true] at hs
    rw [O.sc]
    simpa using hs.1.1.2
  unfold cLc
  split
  · rename_i t c h1 h2
    split
    · rename_i h
      simp only [Bool.and_eq_true, Bool.not_eq_true'] at h
      obtain ⟨⟨⟨h3, h4⟩, h5⟩, h6⟩ := h
      split
      · rename_i i0 hi
        obtain ⟨x0, p0, rfl, e1, e2⟩ := lcB_of hi
        exact hn xLcB_lst (fun σ H Q q => lF_lcB (subL_of h4) (O.off h5) (by rw [O.lin]; exact e2) O.hK q) (ps_setLc (own := ownOf C scope) O.calm O.nd (O.st hx).1 hloc hsw (pi_seq (O.var e1)) (blkOk_by (by rw [O.hN, O.sc]; exact h3)) (fun s H A cl fp => pg_of (O.blk scope s H A cl fp) h1) (fun s H A cl fp => ifs_of S (O.blk scope s H A cl fp) h2) (fun s H A cl fp => S.e (O.blk scope s H A cl fp) elt) (set_iter h6))
      refine hn xLc_lst (fun σ H Q q => lF_lc (subL_of h4) (O.off h5) O.hK q) (ps_setLc (own := ownOf C scope) O.calm O.nd (O.st hx).1 hloc hsw (S.i O tg iter) (blkOk_by (by rw [O.hN, O.sc]; exact h3)) (fun s H A cl fp => pg_of (O.blk scope s H A cl fp) h1) (fun s H A cl fp => ifs_of S (O.blk scope s H A cl fp) h2) (fun s H A cl fp => S.e (O.blk scope s H A cl fp) elt) (set_iter h6))
    · exact stk _
  · exact stk _
theorem ds_swLc2 {F : CF} (S : Snd G k F) (O : OkX G k C X Z) {x : Str} {xp p : Pos} {i : Nat} {elt tg iter tg1 iter1 : Expr} {ifs ifs1 : List Expr} {scope : Scope} {n : Ex → Co} (hn : ∀ {m : Ex} {te : TE} {st : Stmt}, IsL m → (∀ σ H Q, lF Z m σ H Q → te σ H Q) → PS X st (tAsg te (gName i)) → DS X Z st (n m)) (hst : n xStuck = cStuck ∨ ∀ st, DS X Z st (n xStuck)) (hx : C.st x = some i) (hs : swL C scope p x xp = true) :
    DS X Z (.Assign [.Name x xp] (.ListComp elt [⟨tg, iter, ifs, 0⟩, ⟨tg1, iter1, ifs1, 0⟩] scope p) pos) (n (cLc2 F C elt tg iter ifs tg1 iter1 ifs1 scope)) := by
  have stk : ∀ st, DS X Z st (n xStuck) := fun st => by
    rcases hst with h | h
    · rw [h]; exact ds_stuck
    · exact h st
  have hsw := sw_lc O (elt := elt) (gs := [⟨tg, iter, ifs, 0⟩, ⟨tg1, iter1, ifs1, 0⟩]) (sc := scope) (p := p) (tp := xp) (t := x) (line := pos.line)
  rw [hs] at hsw
  have hloc : X.env.scope.names.lookup x = some .local := by
    unfold swL at hs
    simp only [Bool.and_eq_true] at hs
    rw [O.sc]
    simpa using hs.1.1.2
  unfold cLc2
  split
  · rename_i t c t1 c1 h1 h2 h7 h8
    split
    · rename_i h
      simp only [Bool.and_eq_true, Bool.not_eq_true'] at h
      obtain ⟨⟨⟨⟨⟨h3, h4⟩, h5⟩, h6⟩, h9⟩, h10⟩ := h
      refine hn xLc2_lst (fun σ H Q q => lF_lc2 (subL_of h4) (O.off h5) (fun i hi => hi) (fun i hi => O.off h5 i (subL_of h10 i hi)) O.hK q) (ps_setLc2 (own := ownOf C scope) O.calm O.nd (O.st hx).1 hloc hsw (S.i O tg iter) (blkOk_by (by rw [O.hN, O.sc]; exact h3)) (subL_of h10) (fun s H A cl fp => pg_of (O.blk scope s H A cl fp) h1) (fun s H A cl fp => ifs_of S (O.blk scope s H A cl fp) h2)
        (fun s H A cl fp => S.i (O.blk scope s H A cl fp) tg1 iter1) (fun s H A cl fp => pg_of (O.blk scope s H A cl fp) h7) (fun s H A cl fp => ifs_of S (O.blk scope s H A cl fp) h8) (fun s H A cl fp => S.e (O.blk scope s H A cl fp) elt) (set_iter h6) (fun env x => set_iter h9 x))
    · exact stk _
  · exact stk _
/-- name = e -/
def cAsN (F : CF) (C : Cc) (x : Str) (xp : Pos) (e : Expr) : Co := match C.st x with
  | none => cStuck
  | some i => if C.lin i = true then (match e with
      | .ListComp elt [⟨tg, iter, ifs, 0⟩] sc p => if swL C sc p x xp = true then cSetL i (cLc F C elt tg iter ifs sc) else cSetL i (F.f C e)
      | .ListComp elt [⟨tg, iter, ifs, 0⟩, ⟨tg1, iter1, ifs1, 0⟩] sc p => if swL C sc p x xp = true then cSetL i (cLc2 F C elt tg iter ifs tg1 iter1 ifs1 sc) else cSetL i (F.f C e)
      | e => if isComp e = true then cStuck else cSetL i (F.f C e))
    else (match e with
      | .ListComp elt [⟨tg, iter, ifs, 0⟩] sc p => if swL C sc p x xp = true then cSet i (cBx C p (cLc F C elt tg iter ifs sc)) else cSet i (F.e C e)
      | .ListComp elt [⟨tg, iter, ifs, 0⟩, ⟨tg1, iter1, ifs1, 0⟩] sc p => if swL C sc p x xp = true then cSet i (cBx C p (cLc2 F C elt tg iter ifs tg1 iter1 ifs1 sc)) else cSet i (F.e C e)
      | .Call (.Attribute (.Name y yp) m ap) [] [] cp => if (decide (m = "pop") && (ap.endLine == cp.line)) = true then (match C.slot y with
        | some r => if C.lin r = true then cPop (.nm i) r else cStuck
        | none => cStuck) else cSet i (F.e C e)
      | e => if isComp e = true then cStuck else cSet i (F.e C e))
theorem tAsg_of {te te' : TE} {g : TG} {st : Stmt} (i : ∀ σ H Q, te' σ H Q → te σ H Q) (h : PS X st (tAsg te g)) : PS X st (tAsg te' g) := PS.imp h fun D σ H q => i _ _ _ q
theorem ds_asN {F : CF} (S : Snd G k F) (O : OkX G k C X Z) {x : Str} {xp : Pos} : DS X Z (.Assign [.Name x xp] e pos) (cAsN F C x xp e) := by
  unfold cAsN
  split
  · exact ds_stuck
  · rename_i i hx
    obtain ⟨q1, q2, q3⟩ := O.st hx
    have plainL : ∀ {e : Expr}, swapsWith e (some (.Name x xp)) pos.line X.env = pure false → C.lin i = true → DS X Z (.Assign [.Name x xp] e pos) (cSetL i (F.f C e)) := fun {e} hs hl => ds_setL (ps_set O.nd q1 q2 (S.f O e) hs q3) (O.linE hl)
    have plain : ∀ {e : Expr}, swapsWith e (some (.Name x xp)) pos.line X.env = pure false → C.lin i = false → DS X Z (.Assign [.Name x xp] e pos) (cSet i (F.e C e)) := fun {e} hs hl => ds_set (ps_set O.nd q1 q2 (S.e O e) hs q3) (O.linE hl)
    split
    · rename_i hl
      have hn : ∀ {m : Ex} {te : TE} {st : Stmt}, IsL m → (∀ σ H Q, lF Z m σ H Q → te σ H Q) → PS X st (tAsg te (gName i)) → DS X Z st (cSetL i m) := fun _ h p => ds_setL (tAsg_of h p) (O.linE hl)
      split
      · split
        · rename_i hs; exact ds_swLc S O hn (.inl rfl) hx hs
        · rename_i hs; exact plainL (by rw [sw_lc O]; simp only [Bool.not_eq_true] at hs; rw [hs]) hl
      · split
        · rename_i hs; exact ds_swLc2 S O hn (.inl rfl) hx hs
        · rename_i hs; exact plainL (by rw [sw_lc O]; simp only [Bool.not_eq_true] at hs; rw [hs]) hl
      · split
        · exact ds_stuck
        · rename_i hs; exact plainL (sw_no (by simpa using hs)) hl
    · rename_i hl
      have hl : C.lin i = false := by simpa using hl
      have hn : ∀ p, ∀ {m : Ex} {te : TE} {st : Stmt}, IsL m → (∀ σ H Q, lF Z m σ H Q → te σ H Q) → PS X st (tAsg te (gName i)) → DS X Z st (cSet i (cBx C p m)) := fun pp _ _ _ il h p => ds_set (tAsg_of (fun σ H Q q => h σ H Q (lE_bx il q)) p) (O.linE hl)
      have hst : ∀ p st, DS X Z st (cSet i (cBx C p xStuck)) := fun p st => by
        have : cSet i (cBx C p xStuck) = cStuck := by
          unfold cBx
          split <;> rfl
        rw [this]; exact ds_stuck
      split
      · rename_i p
        split
        · rename_i hs; exact ds_swLc (n := fun m => cSet i (cBx C p m)) S O (hn p) (.inr (hst p)) hx hs
        · rename_i hs; exact plain (by rw [sw_lc O]; simp only [Bool.not_eq_true] at hs; rw [hs]) hl
      · rename_i p
        split
        · rename_i hs; exact ds_swLc2 (n := fun m => cSet i (cBx C p m)) S O (hn p) (.inr (hst p)) hx hs
        · rename_i hs; exact plain (by rw [sw_lc O]; simp only [Bool.not_eq_true] at hs; rw [hs]) hl
      · rename_i y yp m ap cp
        split
        · rename_i hz
          simp only [Bool.and_eq_true, decide_eq_true_eq] at hz
          obtain ⟨rfl, hz⟩ := hz
          split
          · rename_i r hr
            split
            · rename_i hlr
              exact ds_pop (t := .nm i) (ps_asg (pe_bm0 PySem.F.plainAttrs_list PySem.F.slot_list_pop PySem.F.type_list_pop mt_pop (O.var hr) rfl hz) (pg_name O.nd q1 q2 q3) rfl rfl rfl) (O.linE hlr) (fun j hj => by simp only [tgS, List.mem_singleton] at hj; rw [hj]; exact O.linE hl) O.hK
            · exact ds_stuck
          · exact ds_stuck
        · exact plain rfl hl
      · split
        · exact ds_stuck
        · rename_i hs; exact plain (sw_no (by simpa using hs)) hl
end
end Qi
namespace Qi
open PySem PySem.Spec L2 PyProof.Rows
section
variable {G : Gx} {k : Nat} {C : Cc} {X : Cx} {Z : Env1} {a b c e : Expr} {ma mb mc : Ex} {pos : Pos}
theorem few1 {env : Env} {cp : Pos} (hs : isStar a = false) : ((backTo cp (starEach [a] env)).all (fun x => !x.1) && (backToKw cp (keywordEach [] env)).all (fun x => x.1.isSome)
      && decide ([a].length + ([] : List Keyword).length + (if ([] : List Keyword).isEmpty then 0 else 1) < 30)) = true := by
  rw [star1 hs]; rfl
/-- y.pop(b), y linear -/
def popOf (C : Cc) : Expr → Option (Nat × Expr)
  | .Call (.Attribute (.Name y _) m ap) [b] [] cp => if (decide (m = "pop") && (ap.endLine == cp.line) && !isStar b) = true then (match C.slot y with
    | some r => if C.lin r = true then some (r, b) else none
    | none => none) else none
  | _ => none
theorem popOf_pe {F : CF} (S : Snd G k F) (O : OkX G k C X Z) {r : Nat} {b : Expr} (h : popOf C e = some (r, b)) : C.lin r = true ∧ isStar e = false ∧ PE X e (tBM X.K "list" rPopAt (tVar r) (tCons (lE Z (F.e C b)) tNil)) := by
  unfold popOf at h
  split at h
  · rename_i y yp m ap b' cp
    split at h
    · rename_i hz
      simp only [Bool.and_eq_true, decide_eq_true_eq, Bool.not_eq_true'] at hz
      obtain ⟨⟨rfl, hz⟩, hs⟩ := hz
      split at h
      · rename_i r' hr
        split at h
        · rename_i hl
          cases h
          exact ⟨hl, rfl, pe_bm PySem.F.plainAttrs_list PySem.F.slot_list_pop PySem.F.type_list_pop mt_popAt (O.var hr) (pa_cons (S.e O b) pa_nil (star1 hs)) rfl (few1 hs) hz (star1 hs) rfl⟩
        · cases h
      · cases h
    · cases h
  · cases h
def cExS (F : CF) (C : Cc) (e : Expr) : Co := match e with
  | .Call (.Attribute (.Name x xp) m ap) [a] [] cp => if ((ap.endLine == cp.line) && !isStar a) = true then (match C.slot x with
    | some i => if C.lin i = true then (if m = "append" then (match popOf C a with
          | some (r, b) => if i = r then cStuck else cAppPop i r (F.e C b)
          | none => cApp i (F.e C a))
        else if m = "extend" then cExt i (F.b C a) else cStuck)
      else (if m = "extend" then cExtR (F.e C (.Name x xp)) (F.b C a) else cExp (F.e C e))
    | none => cExp (F.e C e)) else cExp (F.e C e)
  | e => if isComp e = true then cStuck else cExp (F.e C e)
theorem ds_exS {F : CF} (S : Snd G k F) (O : OkX G k C X Z) : DS X Z (.Expr e pos) (cExS F C e) := by
  unfold cExS
  split
  · rename_i x xp m ap a cp
    split
    · rename_i hz
      simp only [Bool.and_eq_true, Bool.not_eq_true'] at hz
      obtain ⟨hz, hs⟩ := hz
      split
      · rename_i i hi
        split
        · rename_i hl
          split
          · rename_i hm
            subst hm
            split
            · rename_i r b hp
              obtain ⟨hlr, hse, hpe⟩ := popOf_pe (Z := Z) S O hp
              split
              · exact ds_stuck
              · rename_i hir
                exact ds_appPop (pe_bm PySem.F.plainAttrs_list PySem.F.slot_list_append PySem.F.type_list_append mt_append (O.var hi) (pa_cons hpe pa_nil (star1 hse)) rfl (few1 hse) hz (star1 hse) rfl) (O.linE hl) (O.linE hlr) hir
            · exact ds_app (pe_bm PySem.F.plainAttrs_list PySem.F.slot_list_append PySem.F.type_list_append mt_append (O.var hi) (pa_cons (S.e O a) pa_nil (star1 hs)) rfl (few1 hs) hz (star1 hs) rfl) (O.linE hl)
          · split
            · rename_i hm
              subst hm
              exact ds_ext (pe_bm PySem.F.plainAttrs_list PySem.F.slot_list_extend PySem.F.type_list_extend mt_extA (O.var hi) (pa_cons (S.b O a) pa_nil (star1 hs)) rfl (few1 hs) hz (star1 hs) rfl) (O.linE hl) rfl O.hK
            · exact ds_stuck
        · split
          · rename_i hm
            subst hm
            exact ds_extR (pe_bm PySem.F.plainAttrs_list PySem.F.slot_list_extend PySem.F.type_list_extend mt_extA (S.e O _) (pa_cons (S.b O a) pa_nil (star1 hs)) rfl (few1 hs) hz (star1 hs) rfl) rfl O.hK
          · exact ds_exp (S.e O _) rfl
      · exact ds_exp (S.e O _) rfl
    · exact ds_exp (S.e O _) rfl
  · split
    · exact ds_stuck
    · rename_i hs; exact ds_exp (S.e O _) (sw_no (by simpa using hs))
def linNm (C : Cc) : Expr → Option Nat
  | .Name x _ => match C.slot x with
    | some i => if C.lin i = true then some i else none
    | none => none
  | _ => none
theorem linNm_of (O : OkX G k C X Z) {i : Nat} (h : linNm C e = some i) : PE X e (tVar i) ∧ C.lin i = true := by
  unfold linNm at h
  split at h
  · split at h
    · rename_i j hj
      split at h
      · rename_i hl; cases h; exact ⟨O.var hj, hl⟩
      · cases h
    · cases h
  · cases h
theorem asg_sub {o i : Expr} {p : Pos} {env : Env} {v : Value} (hs : isSlice i = false) : assign (.Subscript o i p) env v = (do
      let ov ← holding [v] (eval o env)
      let iv ← holding [v, ov] (eval i env)
      standAt p
      holding [v, ov, iv] (setItem ov iv v)
      release [v, ov, iv] []) := by
  cases i <;> first | rfl | cases hs
def cStS (F : CF) (C : Cc) (o i e : Expr) : Co := if isSlice i = true then cStuck else (match linNm C o with
  | some n => cSetI n (F.e C i) (F.e C e)
  | none => alt (cPutD (F.e C o) (F.e C i) (F.e C e)) (cSetR (F.e C o) (F.e C i) (F.e C e)))
theorem ds_stS {F : CF} (S : Snd G k F) (O : OkX G k C X Z) {o i : Expr} {p : Pos} : DS X Z (.Assign [.Subscript o i p] e pos) (cStS F C o i e) := by
  unfold cStS
  split
  · exact ds_stuck
  · rename_i hs
    have hs : isSlice i = false := by simpa using hs
    have hsw : swapsWith e (some (.Subscript o i p)) pos.line X.env = pure false := sw_tg rfl
    have hw : swappedStores [.Subscript o i p] e X.env = pure none := by cases e <;> rfl
    split
    · rename_i n hn
      obtain ⟨hv, hl⟩ := linNm_of O hn
      exact ds_setI (ps_asg (S.e O e) (pg_sub hv (S.e O i) set_list (fun v => asg_sub hs)) hsw hw rfl) (O.linE hl)
    · exact ds_alt (ds_putD (ps_dput (by have := O.un; omega) (S.e O o) (S.e O i) (S.e O e) hsw)) (ds_setR (ps_asg (S.e O e) (pg_sub (S.e O o) (S.e O i) set_list (fun v => asg_sub hs)) hsw hw rfl))
def cAgS (F : CF) (C : Cc) (x : Str) (op : Operator) (e : Expr) : Co := match C.st x with
  | none => cStuck
  | some i => if C.lin i = true then cStuck else (match op with
    | .Add => cAug (fun a b => a + b) i (F.e C e)
    | .Sub => cAug (fun a b => a - b) i (F.e C e)
    | _ => cStuck)
theorem ds_agS {F : CF} (S : Snd G k F) (O : OkX G k C X Z) {x : Str} {xp : Pos} {op : Operator} : DS X Z (.AugAssign (.Name x xp) op e pos) (cAgS F C x op e) := by
  unfold cAgS
  split
  · exact ds_stuck
  · rename_i i hx
    obtain ⟨q1, q2, q3⟩ := O.st hx
    split
    · exact ds_stuck
    · rename_i hl
      have hl := O.linE (by simpa using hl : C.lin i = false)
      split
      · exact ds_aug (ps_aug O.nd q1 q2 (S.e O e) ip_add q3) hl
      · exact ds_aug (ps_aug O.nd q1 q2 (S.e O e) ip_sub q3) hl
      · exact ds_stuck
def cRtS (F : CF) (C : Cc) (e : Expr) : Co := match linNm C e with
  | some i => alt (cRet (xVL i)) (cRet (F.e C e))
  | none => cRet (F.e C e)
theorem ds_rtS {F : CF} (S : Snd G k F) (O : OkX G k C X Z) : DS X Z (.Return (some e) pos) (cRtS F C e) := by
  unfold cRtS
  split
  · rename_i i hi
    obtain ⟨hv, hl⟩ := linNm_of O hi
    exact ds_alt (ds_retL hv (O.linE hl)) (ds_ret (S.e O e))
  · exact ds_ret (S.e O e)
/-- y.pop(), y linear -/
def pop0 (C : Cc) : Expr → Option Nat
  | .Call (.Attribute (.Name y _) m ap) [] [] cp => if (decide (m = "pop") && (ap.endLine == cp.line)) = true then (match C.slot y with
    | some r => if C.lin r = true then some r else none
    | none => none) else none
  | _ => none
theorem pop0_pe (O : OkX G k C X Z) {r : Nat} (h : pop0 C e = some r) : C.lin r = true ∧ PE X e (tBM0 X.K "list" rPop (tVar r)) := by
  unfold pop0 at h
  split at h
  · split at h
    · rename_i hz
      simp only [Bool.and_eq_true, decide_eq_true_eq] at hz
      obtain ⟨rfl, hz⟩ := hz
      split at h
      · rename_i r' hr
        split at h
        · rename_i hl
          cases h
          exact ⟨hl, pe_bm0 PySem.F.plainAttrs_list PySem.F.slot_list_pop PySem.F.type_list_pop mt_pop (O.var hr) rfl hz⟩
        · cases h
      · cases h
    · cases h
  · cases h
def cTpS (F : CF) (C : Cc) (ts : List Expr) (e : Expr) : Co := match tgN C ts with
  | some is => if linOff C is = true then (match pop0 C e with
    | some r => cPop (.tp is) r
    | none => cAsg (.tp is) (F.e C e)) else cStuck
  | none => cStuck
def isTupD : Expr → Bool
  | .Tuple _ _ _ => true
  | _ => false
theorem ds_tpS {F : CF} (S : Snd G k F) (O : OkX G k C X Z) {ts : List Expr} {kt : Nat} {pt : Pos} (he : isTupD e = false) : DS X Z (.Assign [.Tuple ts kt pt] e pos) (cTpS F C ts e) := by
  unfold cTpS
  split
  · rename_i is hts
    split
    · rename_i hl
      have hg : PG X (.Tuple ts kt pt) (gT X.K (.tp is)) := pg_of O (by show Option.map Tgt.tp (tgN C ts) = _; rw [hts]; rfl)
      have hw : swappedStores [.Tuple ts kt pt] e X.env = pure none := by cases e <;> first | rfl | cases he
      split
      · rename_i r hp
        obtain ⟨hlr, pp⟩ := pop0_pe O hp
        exact ds_pop (t := .tp is) (ps_asg pp hg (show swapsWith e (some (.Tuple ts kt pt)) pos.line X.env = pure false from sw_tg rfl) hw rfl) (O.linE hlr) (O.off hl) O.hK
      · exact ds_asg (t := .tp is) (ps_asg (S.e O e) hg (show swapsWith e (some (.Tuple ts kt pt)) pos.line X.env = pure false from sw_tg rfl) (by cases e <;> first | rfl | cases he) rfl) (O.off hl) O.hK
    · exact ds_stuck
  · exact ds_stuck
def cRsS (G : Gx) (F : CF) (C : Cc) (x : Str) (es : List Expr) : Co := match G.exs.find? (fun E => decide (E.name = x)) with
  | some E => if C.glb x = true then (match es, excField E.cn with
    | [e], some _ => if isStar e = true then cStuck else cRaise1 E.cn (F.e C e)
    | [], none => cRaise0 E.cn
    | _, _ => cStuck) else cStuck
  | none => cStuck
theorem ds_rsS {F : CF} (S : Snd G k F) (O : OkX G k C X Z) {x : Str} {es : List Expr} {p cp : Pos} : DS X Z (.Raise (some (.Call (.Name x p) es [] cp)) none pos) (cRsS G F C x es) := by
  unfold cRsS
  split
  · rename_i E hE
    have hx : E.name = x := by have z := List.find?_some hE; simpa using z
    have q := O.g.exs E (List.mem_of_find?_eq_some hE)
    rw [O.hK] at q
    split
    · rename_i hg
      have hr : Room 1 X.A := O.room.mono (by omega)
      have T : Raises X (.ref (Z.K.cl E.cn)) := raises_own q.r1 q.r2
      have hm : X.mg x = some (.ref (Z.K.cl E.cn)) := by rw [← hx]; exact q.at_
      split
      · rename_i e f hf
        split
        · exact ds_stuck
        · rename_i hs
          have hs : isStar e = false := by simpa using hs
          obtain ⟨fI, fd, p0, p1, p2, p3, p4, p5, p6, p7, p8, p9, txt, kk, Y, J⟩ := q.mk1 f hf
          exact ds_raise1 O.calm O.tk hf (pmk_exc1 (exBa E.ov) Y J hr T (O.gl hg) hm (S.e O e) (star1 hs) (by rw [← hx]; exact q.nd))
      · rename_i hf
        obtain ⟨fI, fd, p0, p1, p2, p3, p4, p5, txt, kk, Y, J⟩ := q.mk0 hf
        exact ds_raise0 O.calm O.tk hf (pmk_exc0 (exBa E.ov) Y J hr T (O.gl hg) hm (by rw [← hx]; exact q.nd))
      · exact ds_stuck
    · exact ds_stuck
  · exact ds_stuck
end
abbrev SF := Cc → List Stmt → Co
def SndS (G : Gx) (k : Nat) (P : SF) : Prop := ∀ {C X Z}, OkS G k C X Z → ∀ sts, DSs X Z sts (P C sts)
def stS (G : Gx) (F : CF) (P : SF) (C : Cc) (st : Stmt) : Co := match st with
  | .Pass _ => cNil
  | .Break _ => cBrk
  | .Return none _ => cRetN
  | .Return (some e) _ => cRtS F C e
  | .Expr e _ => cExS F C e
  | .If c a b _ => cIf (F.t C c) (P C a) (P C b)
  | .While c body [] _ => cWhile (F.t C c) (P C body)
  | .For tg it body [] _ => (match tgOf C tg with
    | some t => if (linOff C (tgS t) && !isSetD it) = true then cFor (F.i C tg it) t (P C body) else cStuck
    | none => cStuck)
  | .Assign [.Name x xp] e _ => cAsN F C x xp e
  | .Assign [.Tuple ts _ _] (.Tuple es _ _) _ => cParS F C ts es
  | .Assign [.Tuple ts _ _] e _ => cTpS F C ts e
  | .Assign [.Subscript o i _] e _ => cStS F C o i e
  | .AugAssign (.Name x _) op e _ => cAgS F C x op e
  | .Raise (some (.Call (.Name x _) es [] _)) none _ => cRsS G F C x es
  | _ => cStuck
section
variable {G : Gx} {k : Nat} {C : Cc} {X : Cx} {Z : Env1}
theorem stS_ok {F : CF} (S : Snd G k F) {P : SF} (SP : SndS G k P) (O : OkS G k C X Z) (st : Stmt) : DS X Z st (stS G F P C st) := by
  unfold stS
  split
  · exact ds_pass
  · exact ds_break
  · exact ds_retN
  · exact ds_rtS S O.x
  · exact ds_exS S O.x
  · exact ds_if (S.t O.x _) (SP O _) (SP O _)
  · exact ds_while O.hp (S.t O.x _) (SP O _)
  · split
    · rename_i t ht
      split
      · rename_i hl
        simp only [Bool.and_eq_true, Bool.not_eq_true'] at hl
        exact ds_for O.hp O.x.calm (S.i O.x _ _) (pg_of O.x ht) (SP O _) (O.x.off hl.1) (fun h1 h2 h3 => ps_for O.hp O.x.calm h1 h2 h3 (set_iter hl.2)) O.x.hK
      · exact ds_stuck
    · exact ds_stuck
  · exact ds_asN S O.x
  · exact ds_parS S O.x
  · rename_i h
    exact ds_tpS S O.x (by
      rename_i e _
      cases e with
      | Tuple es kk p => exact (h es kk p rfl).elim
      | _ => rfl)
  · exact ds_stS S O.x
  · exact ds_agS S O.x
  · exact ds_rsS S O.x
  · exact ds_stuck
/-- frozen here -/
def stLine : Stmt → Nat
  | .For _ _ _ _ p => p.line
  | .Assign _ _ p => p.line
  | .Expr _ p => p.line
  | .Return _ p => p.line
  | .If _ _ _ p => p.line
  | .While _ _ _ p => p.line
  | .Raise _ _ p => p.line
  | _ => 0
def fzAt (C : Cc) (st : Stmt) : List Nat := (C.fz.filter fun p => p.1 == stLine st && C.lin p.2).map (·.2)
def frzA : List Nat → Co → Co
  | [], m => m
  | i :: is, m => cFrz i (frzA is m)
theorem ds_frzA {sts : List Stmt} {m : Co} (h : DSs X Z sts m) : ∀ {is : List Nat}, (∀ i ∈ is, Z.lin i = true) → DSs X Z sts (frzA is m)
  | [], _ => h
  | i :: is, hl => ds_frz (ds_frzA h fun j hj => hl j (List.mem_cons_of_mem _ hj)) (hl i List.mem_cons_self)
def stL (G : Gx) (F : CF) (P : SF) (C : Cc) (sts : List Stmt) : Co := match sts with
  | [] => cNil
  | [st] => frzA (fzAt C st) (stS G F P C st)
  | st :: rest => frzA (fzAt C st) (cSeq (stS G F P C st) (P C rest))
theorem fz_lin (O : OkS G k C X Z) {st : Stmt} : ∀ i ∈ fzAt C st, Z.lin i = true := fun i hi => by
  unfold fzAt at hi
  obtain ⟨p, hp, rfl⟩ := List.mem_map.mp hi
  have := (List.mem_filter.mp hp).2
  simp only [Bool.and_eq_true] at this
  exact O.x.linE this.2
theorem stL_ok {F : CF} (S : Snd G k F) {P : SF} (SP : SndS G k P) (O : OkS G k C X Z) (sts : List Stmt) : DSs X Z sts (stL G F P C sts) := by
  unfold stL
  split
  · exact ds_nil
  · exact ds_frzA (ds_one (stS_ok S SP O _)) (fz_lin O)
  · exact ds_frzA (ds_cons (stS_ok S SP O _) (SP O _)) (fz_lin O)
def cBody (G : Gx) (F : CF) : Nat → SF
  | 0 => fun _ _ => cStuck
  | n + 1 => stL G F (cBody G F n)
theorem cBody_ok {F : CF} (S : Snd G k F) : ∀ n, SndS G k (cBody G F n)
  | 0 => fun _ _ => dss_stuck
  | n + 1 => fun O sts => stL_ok S (cBody_ok S n) O sts
end
end Qi
namespace Qi
open PySem PySem.Spec L2 PyProof.Rows
def BindA (a : Arguments) (ps : List Str) : Prop := ∀ (x qual : Str) (body : List Stmt) (scope : Scope) (kV doc pm : Value) (an : Option Addr) (cdv ct : Value) (us : List Value), us.length = ps.length → bindArgs (PySem.W.fnOf x qual a body scope .none kV doc pm an cdv ct) ⟨us, []⟩ = pure (ps.zip us)
structure FSp where
  at_ : Str × Option Str
  name : Str
  qual : Str
  st : Stmt
  f : Nat
  np : Nat
  N : List Str
  ls : List Nat
  bx : List (Nat × Nat)
  fz : List (Nat × Nat)
  g : Bool
  pr : Bool
  lm : Bool
  xq : Bool
def FSp.cc (s : FSp) : Cc := ⟨s.N, defScope s.st, s.ls, s.g, fun _ => true, s.bx, s.fz, s.lm, true, s.xq⟩
def FSp.ps (s : FSp) : List Str := s.N.take s.np
def nodupS : List Str → Bool
  | [] => true
  | x :: r => !r.contains x && nodupS r
theorem nodupS_of : ∀ {l : List Str}, nodupS l = true → l.Nodup
  | [], _ => .nil
  | x :: r, h => by
    simp only [nodupS, Bool.and_eq_true, Bool.not_eq_true'] at h
    refine List.nodup_cons.mpr ⟨fun z => ?_, nodupS_of h.2⟩
    have := h.1
    simp [z] at this
def scOk (N ps : List Str) (sc : Scope) : Bool := decide (sc.kind = .function) && !sc.isCoroutine && !sc.isGenerator && nodupS N && decide (N.take ps.length = ps) && ps.all (fun x => decide (sc.names.lookup x = some .local) || decide (sc.names.lookup x = some .cell)) && sc.names.all fun y => decide (y.2 ≠ .free)
theorem scOk_of {N ps : List Str} {sc : Scope} (h : scOk N ps sc = true) : FnScope N ps sc := by
  unfold scOk at h
  simp only [Bool.and_eq_true, Bool.not_eq_true', decide_eq_true_eq] at h
  obtain ⟨⟨⟨⟨⟨⟨h1, h2⟩, h3⟩, h4⟩, h5⟩, h6⟩, h7⟩ := h
  refine ⟨h1, h2, h3, nodupS_of h4, h5, fun x hx => ?_, fun y hy => ?_⟩
  · have := List.all_eq_true.mp h6 x hx
    simpa using this
  · have := List.all_eq_true.mp h7 y hy
    simpa using this
/-- a plain def -/
def FSp.ok (s : FSp) : Bool := decide (s.np ≤ s.N.length) && scOk s.N s.ps (defScope s.st) && s.ls.all fun i => decide (s.np ≤ i)
def EF : Nat := 60
def SFu : Nat := 100
def FSp.code (G : Cf → Gx) (s : FSp) : Cf → Co := fun cf => cBody (G cf) (cAllF (G cf) EF) SFu s.cc (defBody s.st)
def FSp.fd (G : Cf → Gx) (s : FSp) : FDef := ⟨s.np, s.N.length, s.code G⟩
section
variable {P : Program} {w : World} {K : Kx} {mg : Str → Option Value} {base : Heap} {s : FSp} {fd : FuncData} {fa : Addr} {T : Tab} {k : Nat} {G : Cf → Gx}
theorem FSp.ok3 (h : s.ok = true) : s.np ≤ s.N.length ∧ scOk s.N s.ps (defScope s.st) = true ∧ (s.ls.all fun i => decide (s.np ≤ i)) = true := by
  unfold FSp.ok at h
  simp only [Bool.and_eq_true, decide_eq_true_eq] at h
  exact ⟨h.1.1, h.1.2, h.2⟩
theorem FSp.len_ps (h : s.ok = true) : s.ps.length = s.np := by
  unfold FSp.ps
  rw [List.length_take]
  have := (FSp.ok3 h).1
  omega
theorem FSp.binds {k0 : PySem.W.Frag} (h : BindA (defArgs s.st) s.ps) (F : Fun k0 s.name s.qual s.st fa fd) : Binds k0 fd s.ps [] := F.binds fun kV doc pm an cdv ct us hu => h _ _ _ _ _ _ _ _ _ _ us hu
theorem FSp.sc (h : s.ok = true) : FnScope s.N s.ps (defScope s.st) := scOk_of (FSp.ok3 h).2.1
theorem FSp.lin (h : s.ok = true) : ∀ i, i < s.np → s.cc.lin i = false := fun i hi => by
  cases q : s.cc.lin i with
  | false => rfl
  | true =>
    have : i ∈ s.ls := by
      have q' : s.ls.contains i = true := q
      simpa using q'
    have := List.all_eq_true.mp (FSp.ok3 h).2.2 i this
    simp at this
    omega
/-- where lambdas are made -/
def FSp.lamq (s : FSp) : Str := (s.qual ++ ".<locals>.") ++ "<lambda>"
def LamS0 (K : Kx) (mg : Str → Option Value) (base : Heap) (s : FSp) (fd : FuncData) : Prop := s.lm = true → ∃ c P, fd.code = .ref c ∧ LamX.TabB base mg c P ∧ (P, s.lamq) ∈ K.tb ∧ ∀ p ∈ K.tb, p.1 = P → p.2 = s.lamq
/-- the place where its body is run -/
theorem okX_cx {G0 : Gx} {cdv : Value} {A : Around} {outer : List Env} {s0 : Shared} {H : Hp} {E : XK} (h : s.ok = true) (hr : Room (7 * k + 6) (A.deeper (envOfC s.qual (defScope s.st) s0.heap.objs.size fa cdv))) (hg : s.g = true → A.guards = some []) (g : GOk G0 k P w K mg base) (hlm : LamS0 K mg base s fd) (ecd : fd.code = cdv) :
    OkS G0 k s.cc (cxOf (L2.CX P w) P w K.K mg base s.N s.qual (defScope s.st) fa cdv A outer s0 H E) ⟨K, s.cc.lin, wishE E⟩ where
  x := {
    hN := rfl
    sc := rfl
    nd := (FSp.sc h).nd
    calm := rfl
    hK := rfl
    lin := rfl
    tk := takes_of rfl rfl rfl rfl
    room := hr.mono (by omega)
    room5 := fun _ => hr.mono (by omega)
    lam := fun z => ⟨⟨(hlm z).imp fun c z2 => z2.imp fun P z3 => ⟨ecd.symm.trans z3.1, z3.2.1, z3.2.2.1, z3.2.2.2⟩⟩, hr⟩
    gd := fun z => by
      show (A.deeper _).guards = _
      exact hg z
    fn := fun _ _ => rfl
    g := g }
  hp := passes_of rfl
theorem fnOk_of (F : Fun K.K s.name s.qual s.st fa fd) (h : s.ok = true) (hT : T s.f = some (s.fd G)) (hg : s.g = false) (g : GOk (G (callN T k)) k P w K mg base) (hlm : LamS0 K mg base s fd) :
    FnOk P w K.K mg base (L2.CX P w) (7 * (k + 1)) fa fd s.ps (CallSp K (callN T (k + 1)) s.f s.np) :=
  fn_ok (d := s.fd G) (lin := s.cc.lin) F (FSp.sc h) hT (FSp.len_ps h) rfl (FSp.lin h) fun cdv ecd A outer s0 H E hr => cBody_ok (snd_all EF) SFu (okX_cx h hr (fun z => by rw [hg] at z; cases z) g hlm ecd) _
theorem fnG_of2 (F : Fun K.K s.name s.qual s.st fa fd) (h : s.ok = true) (hT : T s.f = some (s.fd G)) (g : GOk (G (callN T k)) k P w K mg base) (hlm : LamS0 K mg base s fd) :
    FnG P w K.K mg base (L2.CX P w) (7 * (k + 1)) fa fd s.ps (CallSp K (callN T (k + 1)) s.f s.np) :=
  fn_okG (d := s.fd G) (lin := s.cc.lin) F (FSp.sc h) hT (FSp.len_ps h) rfl (FSp.lin h) fun cdv ecd A outer s0 H E hr hg => cBody_ok (snd_all EF) SFu (okX_cx h hr (fun _ => hg) g hlm ecd) _
end
end Qi
namespace Qi
open PySem PySem.Spec L2 PyProof.Rows
def isSelfA (f : Str) : Stmt → Option Expr
  | .Assign [.Attribute (.Name x _) g _] e _ => if (decide (x = "self") && decide (g = f)) = true then some e else none
  | _ => none
theorem isSelfA_of {f : Str} {st : Stmt} {e : Expr} (h : isSelfA f st = some e) : ∃ p1 p2 p3, st = .Assign [.Attribute (.Name "self" p1) f p2] e p3 := by
  unfold isSelfA at h
  split at h
  · split at h
    · rename_i hz
      simp only [Bool.and_eq_true, decide_eq_true_eq] at hz
      obtain ⟨rfl, rfl⟩ := hz
      cases h
      exact ⟨_, _, _, rfl⟩
    · cases h
  · cases h
/-- the slots' names, the class -/
def cIni (G : Gx) (F : CF) (P : SF) (c : Nat) (f1 f2 : Str) (C : Cc) : List Stmt → Co
  | [] => cStuck
  | [_] => cStuck
  | [s1, s2] => (match isSelfA f1 s1, isSelfA f2 s2, C.slot "self" with
    | some e1, some e2, some 0 => cFin c (F.e C e1) (F.e C e2)
    | _, _, _ => cStuck)
  | st :: rest => cSeqI (stS G F P C st) (cIni G F P c f1 f2 C rest)
section
variable {G : Gx} {k : Nat} {C : Cc} {X : Cx} {Z : Env1} {A x dx : Addr}
theorem pssI_stuck {sts : List Stmt} : PSs X sts (lI2 Z A x dx cStuck) := ⟨fun _ _ _ _ _ _ ⟨_, _, _, _, _, _, _, h⟩ => h.elim⟩
theorem cIni_ok {F : CF} (S : Snd G k F) {P : SF} (SP : SndS G k P) (O : OkS G k C X Z) {c : Nat} {f1 f2 : Str} {p1 p2 : Addr} (hme : Z.K.me = some (x, .ins A dx [])) (hC : Z.K.cl c = A) (hl : C.lin 0 = true) (sc : SlX.SCls X.K A) (t1 : SlX.Slot1 X.K A f1 p1 1) (t2 : SlX.Slot1 X.K A f2 p2 0) :
    ∀ sts, PSs X sts (lI2 Z A x dx (cIni G F P c f1 f2 C sts))
  | [] => pssI_stuck
  | [_] => pssI_stuck
  | [s1, s2] => by
    unfold cIni
    split
    · rename_i e1 e2 h1 h2 h3
      obtain ⟨q1, q2, q3, rfl⟩ := isSelfA_of h1
      obtain ⟨r1, r2, r3, rfl⟩ := isSelfA_of h2
      exact dsi_fin hme hC (O.x.linE hl) sc t1 t2 (SlX.ps_sl (O.x.var h3) (S.e O.x _) (sw_tg rfl)) (SlX.ps_sl (O.x.var h3) (S.e O.x _) (sw_tg rfl))
    · exact pssI_stuck
  | s0 :: s1 :: s2 :: rest => by
    unfold cIni
    exact dsi_cons (stS_ok S SP O s0) (cIni_ok S SP O hme hC hl sc t1 t2 (s1 :: s2 :: rest))
end
def FSp.okI (s : FSp) : Bool := decide (s.np ≤ s.N.length) && scOk s.N s.ps (defScope s.st) && s.ls.all (fun i => decide (s.np ≤ i) || decide (i = 0)) && s.ls.contains 0 && decide (1 ≤ s.np)
def FSp.codeI (G : Cf → Gx) (c : Nat) (f1 f2 : Str) (s : FSp) : Cf → Co := fun cf => cEnd (cIni (G cf) (cAllF (G cf) EF) (cBody (G cf) (cAllF (G cf) EF) SFu) c f1 f2 s.cc (defBody s.st))
def FSp.fdI (G : Cf → Gx) (c : Nat) (f1 f2 : Str) (s : FSp) : FDef := ⟨s.np, s.N.length, s.codeI G c f1 f2⟩
section
variable {P : Program} {w : World} {K : Kx} {mg : Str → Option Value} {base : Heap} {s : FSp} {fd : FuncData} {fa A : Addr} {T : Tab} {k : Nat} {G : Cf → Gx}
theorem okX_cxI {G0 : Gx} {cdv : Value} {Ar : Around} {outer : List Env} {s0 : Shared} {H : Hp} {E : XK} (sc : FnScope s.N s.ps (defScope s.st)) (hr : Room (7 * k + 6) (Ar.deeper (envOfC s.qual (defScope s.st) s0.heap.objs.size fa cdv))) (hg : s.g = false) (hlm : s.lm = false) (g : GOk G0 k P w K mg base) :
    OkS G0 k s.cc (cxOf (L2.CX P w) P w K.K mg base s.N s.qual (defScope s.st) fa cdv Ar outer s0 H E) ⟨K, s.cc.lin, wishE E⟩ where
  x := {
    hN := rfl
    sc := rfl
    nd := sc.nd
    calm := rfl
    hK := rfl
    lin := rfl
    tk := takes_of rfl rfl rfl rfl
    room := hr.mono (by omega)
    room5 := fun _ => hr.mono (by omega)
    lam := fun z => by
      have z : s.lm = true := z
      rw [hlm] at z; cases z
    gd := fun z => by
      have z : s.g = true := z
      rw [hg] at z; cases z
    fn := fun _ _ => rfl
    g := g }
  hp := passes_of rfl
theorem fnI_of {c : Nat} {f1 f2 : Str} {p1 p2 : Addr} (F : Fun K.K s.name s.qual s.st fa fd) (h : s.okI = true) (hT : T s.f = some (s.fdI G c f1 f2)) (hg : s.g = false) (hlm : s.lm = false) (hC : K.cl c = A) (sc : SlX.SCls K.K A) (t1 : SlX.Slot1 K.K A f1 p1 1) (t2 : SlX.Slot1 K.K A f2 p2 0) (g : ∀ m, GOk (G (callN T k)) k P w (K.pin m) mg base) :
    FnOk P w K.K mg base (L2.CX P w) (7 * (k + 1)) fa fd s.ps (InitSp K A (callN T (k + 1)) s.f (s.np - 1)) := by
  unfold FSp.okI at h
  simp only [Bool.and_eq_true, decide_eq_true_eq] at h
  obtain ⟨⟨⟨⟨h1, h2⟩, h3⟩, h4⟩, h5⟩ := h
  have h0 : s.cc.lin 0 = true := h4
  have lps : s.ps.length = s.np := by
    unfold FSp.ps
    rw [List.length_take]; omega
  refine fn_init (d := s.fdI G c f1 f2) (lin := s.cc.lin) (mm := fun cf => cIni (G cf) (cAllF (G cf) EF) (cBody (G cf) (cAllF (G cf) EF) SFu) c f1 f2 s.cc (defBody s.st)) F (scOk_of h2) hT rfl (show s.np = s.np - 1 + 1 by omega) (by omega) rfl h0 (fun i hi hi2 => ?_) fun cdv Ar outer s0 H E xa dx hr => ?_
  · cases q : s.cc.lin i with
    | false => rfl
    | true =>
      have : i ∈ s.ls := by
        have q' : s.ls.contains i = true := q
        simpa using q'
      have := List.all_eq_true.mp h3 i this
      simp at this
      omega
  · exact cIni_ok (snd_all EF) (cBody_ok (snd_all EF) SFu) (okX_cxI (K := K.pin (some (xa, .ins A dx []))) (scOk_of h2) hr hg hlm (g _)) rfl hC h0 sc t1 t2 _
end
def relDK (K : PySem.W.Frag) : Nat → D → Value → Bool
  | _, .non, .none => true
  | _, .bl b, .bool c => b == c
  | _, .int i, .int j _ => decide (i = j)
  | _, .str x, .str y _ => decide (x = y)
  | n + 1, .tup l, .ref a => (match K.lookup a with
    | some ⟨.type c, _, .seq its _, _⟩ => decide (c = "tuple") && (decide (l.length ≤ sizeLine) && decide (its.size = l.length) && (l.zip its.toList).all fun p => relDK K n p.1 p.2)
    | _ => false)
  | _, _, _ => false
theorem relDs {K : PySem.W.Frag} {n : Nat} (ih : ∀ {d : D} {u : Value}, relDK K n d u = true → ∃ v, RelV v u ∧ ∀ w' : Wo, w'.K.K = K → RD w' d v) : ∀ {l : List D} {us : List Value}, us.length = l.length → ((l.zip us).all fun p => relDK K n p.1 p.2) = true → ∃ vs, Vals vs us ∧ ∀ w' : Wo, w'.K.K = K → RDs w' l vs
  | [], [], _, _ => ⟨[], .nil, fun _ _ => .nil⟩
  | d :: l, u :: us, hl, h => by
    simp only [List.zip_cons_cons, List.all_cons, Bool.and_eq_true] at h
    obtain ⟨v, h1, h2⟩ := ih h.1
    obtain ⟨vs, h3, h4⟩ := relDs ih (by simpa using hl) h.2
    exact ⟨v :: vs, .cons h1 h3, fun w' e => .cons (h2 w' e) (h4 w' e)⟩
  | [], _ :: _, hl, _ => by simp at hl
  | _ :: _, [], hl, _ => by simp at hl
theorem relDK_ok {K : PySem.W.Frag} : ∀ {n : Nat} {d : D} {u : Value}, relDK K n d u = true → ∃ v, RelV v u ∧ ∀ w' : Wo, w'.K.K = K → RD w' d v := by
  intro n
  induction n with
  | zero =>
    intro d u h
    unfold relDK at h
    split at h
    · exact ⟨.non, rfl, fun _ _ => .non⟩
    · rename_i b c; obtain rfl := eq_of_beq h; exact ⟨.bl b, rfl, fun _ _ => .bl b⟩
    · rename_i i j t; obtain rfl := of_decide_eq_true h; exact ⟨.int i, ⟨t, rfl⟩, fun _ _ => .int i⟩
    · rename_i x y t; obtain rfl := of_decide_eq_true h; exact ⟨.str x, ⟨t, rfl⟩, fun _ _ => .str x⟩
    · rename_i h0; cases h0
    · cases h
  | succ n ih =>
    intro d u h
    unfold relDK at h
    split at h
    · exact ⟨.non, rfl, fun _ _ => .non⟩
    · rename_i b c; obtain rfl := eq_of_beq h; exact ⟨.bl b, rfl, fun _ _ => .bl b⟩
    · rename_i i j t; obtain rfl := of_decide_eq_true h; exact ⟨.int i, ⟨t, rfl⟩, fun _ _ => .int i⟩
    · rename_i x y t; obtain rfl := of_decide_eq_true h; exact ⟨.str x, ⟨t, rfl⟩, fun _ _ => .str x⟩
    · rename_i n' l a heq
      cases heq
      split at h
      · rename_i c od its m osl q
        simp only [Bool.and_eq_true, decide_eq_true_eq] at h
        obtain ⟨rfl, ⟨h1, h2⟩, h3⟩ := h
        obtain ⟨vs, r1, r2⟩ := relDs ih (by simpa using h2) h3
        refine ⟨.ref a, rfl, fun w' e => .tupK (vs := vs) ?_ h1 (r2 w' e)⟩
        rw [e]
        exact .inr ⟨_, its, m, q, rfl, rfl, by rw [h2]; exact h1, r1⟩
      · cases h
    · cases h
end Qi
namespace Qi
open PySem PySem.Spec L2 PyProof.Rows
structure HdT where
  ls : Bool
  a : Str
  told : Str
  err : Str
  en : Str
  x1 : Str
  x2 : Str
  px : Pos
  py : Pos
  v : Expr
  u : Expr
  rest : List Stmt
def hdVal : Expr → Expr → Option (Bool × Str)
  | .List [] _, .List [.Call (.Name a _) [] [] _] _ => some (true, a)
  | .Constant .none _ _, .Call (.Name a _) [] [] _ => some (false, a)
  | _, _ => none
def hdHand : List ExceptHandler → Option (Str × Str × Str × Str)
  | [.ExceptHandler (some (.Tuple [.Name x1 _, .Name x2 _] _ _)) (some en) [.Assign [.Name err _] (.Name en2 _) _] _] => if en2 = en then some (x1, x2, en, err) else none
  | _ => none
def hdParse : List Stmt → Option HdT
  | .Assign [.Tuple [.Name told px, .Name err py] _ _] (.Tuple [v, u] _ _) _ :: .Try [.Assign [.Name told2 _] e _] hs [] [] _ :: rest => (match hdVal v e, hdHand hs with
    | some (ls, a), some (x1, x2, en, err2) => if (decide (told2 = told) && decide (err2 = err)) = true then some ⟨ls, a, told, err, en, x1, x2, px, py, v, u, rest⟩ else none
    | _, _ => none)
  | _ => none
def isNoneC : Expr → Bool
  | .Constant .none _ _ => true
  | _ => false
def FSp.hdOk (s : FSp) (t : HdT) : Bool := s.ok && decide (s.np = 1) && decide (s.qual = s.name) && !s.g && decide (4 ≤ s.N.length) && decide (s.N[0]? = some t.a) && decide (s.N[1]? = some t.told) && decide (s.N[2]? = some t.err) && decide (3 ≤ (s.cc.ix t.en).getD 0) &&
  decide ((defScope s.st).names.lookup t.en = some .local) && decide ((defScope s.st).names.lookup t.err = some .local) && decide ((defScope s.st).names.lookup t.told = some .local) && decide ((defScope s.st).names.lookup t.x1 = some .globalImplicit) && decide ((defScope s.st).names.lookup t.x2 = some .globalImplicit) &&
  nmOk t.x1 && nmOk t.x2 && nmOk t.en && nmOk t.a && !s.cc.lin 1 && !s.cc.lin 2 && isNoneC t.u && (if t.ls = true then sw2 s.cc t.told t.err t.px t.py [t.v, t.u] else swN s.cc [.Name t.told t.px, .Name t.err t.py] [t.v, t.u])
def FSp.codeH (G : Cf → Gx) (s : FSp) (rest : List Stmt) : Cf → Co := fun cf σ S => cBody (G cf) (cAllF (G cf) EF) SFu s.cc rest (none :: σ) S
def FSp.fdH (G : Cf → Gx) (s : FSp) (rest : List Stmt) : FDef := ⟨2, s.N.length - 1, s.codeH G rest⟩
section
variable {P : Program} {w : World} {K : Kx} {mg : Str → Option Value} {base : Heap} {s : FSp} {fd : FuncData} {fa : Addr} {T : Tab} {k : Nat} {G : Cf → Gx}
theorem hdVal_of {v e : Expr} {ls : Bool} {a : Str} (h : hdVal v e = some (ls, a)) : (∃ lp p1 p2 lp2, ls = true ∧ v = .List [] lp ∧ e = .List [.Call (.Name a p1) [] [] p2] lp2) ∨ (∃ c1 c2 p1 p2, ls = false ∧ v = .Constant .none c1 c2 ∧ e = .Call (.Name a p1) [] [] p2) := by
  unfold hdVal at h
  split at h
  · cases h; exact .inl ⟨_, _, _, _, rfl, rfl, rfl⟩
  · cases h; exact .inr ⟨_, _, _, _, rfl, rfl, rfl⟩
  · cases h
theorem hdHand_of {hs : List ExceptHandler} {x1 x2 en err : Str} (h : hdHand hs = some (x1, x2, en, err)) : ∃ q1 q2 kk np yp nq ap pos', hs = [.ExceptHandler (some (.Tuple [.Name x1 q1, .Name x2 q2] kk np)) (some en) [.Assign [.Name err yp] (.Name en nq) ap] pos'] := by
  unfold hdHand at h
  split at h
  · split at h
    · rename_i he
      subst he
      cases h
      exact ⟨_, _, _, _, _, _, _, _, rfl⟩
    · cases h
  · cases h
theorem isNoneC_of {e : Expr} (h : isNoneC e = true) : ∃ c1 c2, e = .Constant .none c1 c2 := by
  unfold isNoneC at h
  split at h
  · exact ⟨_, _, rfl⟩
  · cases h
theorem hdParse_of {l : List Stmt} {t : HdT} (h : hdParse l = some t) : ∃ kt pt k2 pt2 pos e xp xq hs pos2, l = .Assign [.Tuple [.Name t.told t.px, .Name t.err t.py] kt pt] (.Tuple [t.v, t.u] k2 pt2) pos :: .Try [.Assign [.Name t.told xp] e xq] hs [] [] pos2 :: t.rest ∧ hdVal t.v e = some (t.ls, t.a) ∧ hdHand hs = some (t.x1, t.x2, t.en, t.err) := by
  unfold hdParse at h
  split at h
  · split at h
    · rename_i ls a x1 x2 en err2 e1 e2
      split at h
      · rename_i hz
        simp only [Bool.and_eq_true, decide_eq_true_eq] at hz
        obtain ⟨rfl, rfl⟩ := hz
        cases h
        exact ⟨_, _, _, _, _, _, _, _, _, _, rfl, e1, e2⟩
      · cases h
    · cases h
  · cases h
theorem setsV12 {σ : L2.St} : setsV [1, 2] [V.non, V.non] σ = (σ.set 1 (some .non)).set 2 (some .non) := rfl
theorem hd_text {t : HdT} {C1 C2 : Addr} {cdv : Value} (hp : hdParse (defBody s.st) = some t) (h : s.hdOk t = true) (hT : T s.f = some (s.fdH G t.rest)) (g : GOk (G (callN T k)) k P w K mg base) (hlm : LamS0 K mg base s fd) (ecd : fd.code = cdv)
    (m1 : mg t.x1 = some (.ref C1)) (m2 : mg t.x2 = some (.ref C2)) {ct : Nat → Bool} (hct : ∀ c, ct c = true → PySem.W.exmAny K.K (.ref (K.cl c)) [.ref C1, .ref C2] = some true) :
    HdOk P w K mg base (7 * (k + 1) + 4) s.N s.name (defScope s.st) fa cdv t.a (defBody s.st) (callN T (k + 1)) s.f t.ls ct := by
  unfold FSp.hdOk at h
  simp only [Bool.and_eq_true, decide_eq_true_eq, Bool.not_eq_true', nmOk] at h
  obtain ⟨⟨⟨⟨⟨⟨⟨⟨⟨⟨⟨⟨⟨⟨⟨⟨⟨⟨⟨⟨⟨h1, h2⟩, h3⟩, h4⟩, h5⟩, h6⟩, h7⟩, h8⟩, h9⟩, h10⟩, h11⟩, h12⟩, h13⟩, h14⟩, h15⟩, h16⟩, h17⟩, h18⟩, h19⟩, h20⟩, h21⟩, h22⟩ := h
  obtain ⟨c3, c4, hu⟩ := isNoneC_of h21
  obtain ⟨kt, pt, k2, pt2, pos, e, xp, xq, hs, pos2, eb, ev, eh⟩ := hdParse_of hp
  obtain ⟨q1, q2, kk, np, yp, nq, ap, pos', rfl⟩ := hdHand_of eh
  have nd := (FSp.sc h1).nd
  obtain ⟨n, hn⟩ : ∃ n, s.N.length = n + 3 := ⟨s.N.length - 3, by omega⟩
  obtain ⟨i, hi⟩ : ∃ i, s.cc.ix t.en = some i := by
    cases q : s.cc.ix t.en with
    | none => rw [q] at h9; simp at h9
    | some i => exact ⟨i, rfl⟩
  have hi3 : 3 ≤ i := by rw [hi] at h9; exact h9
  have hiN : s.N[i]? = some t.en := Cc.ix_get (C := s.cc) hi
  have ok : ∀ (A : Around) (outer : List Env) (s0 : Shared) (H : Hp) (E : XK), Room (7 * (k + 1) + 4) (A.deeper (envOfC s.name (defScope s.st) s0.heap.objs.size fa cdv)) → OkS (G (callN T k)) k s.cc (cxH P w K.K mg base s.N s.name (defScope s.st) fa cdv A outer s0 H E) ⟨K, s.cc.lin, wishE E⟩ := fun A outer s0 H E hr => by
    have z := okX_cx (outer := outer) (H := H) (E := E) (P := P) (w := w) (mg := mg) (base := base) (cdv := cdv) (A := A) (s0 := s0) (fa := fa) h1 (by rw [h3]; exact hr.mono (by omega)) (fun z => by rw [h4] at z; cases z) g hlm ecd
    rw [h3] at z
    exact z
  have hasg : ∀ (A : Around) (outer : List Env) (s0 : Shared) (H : Hp) (E : XK), Room (7 * (k + 1) + 4) (A.deeper (envOfC s.name (defScope s.st) s0.heap.objs.size fa cdv)) → PS (cxH P w K.K mg base s.N s.name (defScope s.st) fa cdv A outer s0 H E) (.Assign [.Tuple [.Name t.told t.px, .Name t.err t.py] kt pt] (.Tuple [t.v, t.u] k2 pt2) pos) (tH0 t.ls) := fun A outer s0 H E hr => by
    have O := (ok A outer s0 H E hr).x
    rcases hdVal_of ev with ⟨lp, p1, p2, lp2, els, evv, ee⟩ | ⟨c1, c2, p1, p2, els, evv, ee⟩
    · rw [els, if_pos rfl] at h22
      rw [els]
      have hw := sws2 O (kt := kt) (k2 := k2) (pt := pt) (p2 := pt2) h22
      rw [evv, hu] at hw ⊢
      refine PS.imp (par2 nd (pa_cons (pe_lst pa_nil) (pa_cons pe_non pa_nil rfl) rfl) (by decide) rfl h7 h8 (.inl h12) (.inl h11) (.inr h12) (.inr h11) hw rfl) fun D σ H h => ?_
      exact ⟨Nat.zero_le _, fun p hp => ⟨.ref p, .non, rfl, h p hp⟩⟩
    · rw [els, if_neg (by decide)] at h22
      rw [els]
      have hw := sws_none O (kt := kt) (k2 := k2) (pt := pt) (p2 := pt2) h22
      have hg : PG (cxH P w K.K mg base s.N s.name (defScope s.st) fa cdv A outer s0 H E) (.Tuple [.Name t.told t.px, .Name t.err t.py] kt pt) (gT K.K (.tp [1, 2])) := by
        refine pg_of O ?_
        have i1 : s.cc.st t.told = some 1 := by
          unfold Cc.st
          have : (s.cc.loc t.told && (s.cc.own t.told || s.cc.isL t.told)) = true := by
            unfold Cc.loc
            rw [show s.cc.sc.names.lookup t.told = _ from h12]
            rfl
          rw [if_pos this]
          unfold Cc.ix
          rw [List.findIdx?_eq_some_iff_getElem]
          obtain ⟨z1, z2⟩ := List.getElem?_eq_some_iff.mp h7
          refine ⟨z1, decide_eq_true z2, fun j hj => ?_⟩
          have : j = 0 := by omega
          subst this
          simp only [decide_eq_true_eq, Bool.not_eq_true', decide_eq_false_iff_not]
          intro z
          have h6' := List.getElem?_eq_some_iff.mp h6
          have := nodup_ix nd h6 (show s.N[1]? = some t.a by
            obtain ⟨y1, y2⟩ := h6'
            have z : s.N[0] = t.told := z
            rw [y2] at z
            rw [z]; exact h7)
          cases this
        have i2 : s.cc.st t.err = some 2 := by
          unfold Cc.st
          have : (s.cc.loc t.err && (s.cc.own t.err || s.cc.isL t.err)) = true := by
            unfold Cc.loc
            rw [show s.cc.sc.names.lookup t.err = _ from h11]
            rfl
          rw [if_pos this]
          unfold Cc.ix
          rw [List.findIdx?_eq_some_iff_getElem]
          obtain ⟨z1, z2⟩ := List.getElem?_eq_some_iff.mp h8
          refine ⟨z1, decide_eq_true z2, fun j hj => ?_⟩
          simp only [decide_eq_true_eq, Bool.not_eq_true', decide_eq_false_iff_not]
          intro z
          have hjl : j < s.N.length := by omega
          have := nodup_ix nd (show s.N[j]? = some t.err by rw [List.getElem?_eq_getElem hjl]; exact congrArg some z) h8
          omega
        show Option.map Tgt.tp (tgN s.cc [.Name t.told t.px, .Name t.err t.py]) = _
        simp only [tgN, i1, i2]
        rfl
      rw [evv, hu] at hw ⊢
      refine PS.imp (ps_asg (pe_tup (pa_cons pe_non (pa_cons pe_non pa_nil rfl) rfl)) hg rfl hw rfl) fun D σ H h => ?_
      refine ⟨by decide, fun p hp => ⟨p, [.non, .non], rfl, .inl (.inl upd_same), rfl, ?_⟩⟩
      rw [setsV12]
      exact h p hp
  have hcf : ∀ tv ev S, callN T (k + 1) s.f [tv, ev] S = finR (cBody (G (callN T k)) (cAllF (G (callN T k)) EF) SFu s.cc t.rest (σH n tv ev) S) := fun tv ev S => by
    have e0 : callN T (k + 1) s.f [tv, ev] S = finR (FSp.codeH G s t.rest (callN T k) (startD (s.N.length - 1) [tv, ev]) S) := by
      show (match T s.f with | some d => runB d.np d.ns (d.code (callN T k)) [tv, ev] S | none => .stuck) = _
      rw [hT]
      show (if ([tv, ev] : List D).length = 2 then _ else _) = _
      rw [if_pos (show ([tv, ev] : List D).length = 2 from rfl)]
      rfl
    rw [e0, hn]
    rfl
  rw [eb]
  rcases hdVal_of ev with ⟨lp, p1, p2, lp2, els, evv, ee⟩ | ⟨c1, c2, p1, p2, els, evv, ee⟩
  · subst ee
    rw [els] at hasg ⊢
    exact heard_ok (told := t.told) (lin := s.cc.lin) (mr := cBody (G (callN T k)) (cAllF (G (callN T k)) EF) SFu s.cc t.rest) nd hn hiN h8 hi3 h10 h11 h13 h14 m1 m2 h15.1 h16.1 h17.1 h17.2 hct h19 h20 hasg (fun A outer s0 H E pn xe ta hta => ps_set nd h7 (.inl h12) (pe_lst (pa_cons hta pa_nil rfl)) rfl (.inr h12)) (fun A outer s0 H E hr => cBody_ok (snd_all EF) SFu (ok A outer s0 H E hr) t.rest) hcf
  · subst ee
    rw [els] at hasg ⊢
    exact heard_ok (told := t.told) (lin := s.cc.lin) (mr := cBody (G (callN T k)) (cAllF (G (callN T k)) EF) SFu s.cc t.rest) nd hn hiN h8 hi3 h10 h11 h13 h14 m1 m2 h15.1 h16.1 h17.1 h17.2 hct h19 h20 hasg (fun A outer s0 H E pn xe ta hta => ps_set nd h7 (.inl h12) hta rfl (.inr h12)) (fun A outer s0 H E hr => cBody_ok (snd_all EF) SFu (ok A outer s0 H E hr) t.rest) hcf
end
end Qi
namespace Qi
open PySem PySem.Spec L2 PyProof.Rows
def propFn (K : PySem.W.Frag) (q : Addr) : Addr := match PySem.W.recIn K q "property" with
  | some (.ref fa :: _) => fa
  | _ => 0
def FSp.adr (K : PySem.W.Frag) (s : FSp) : Addr := if s.pr = true then propFn K (He.fAd K s.at_) else He.fAd K s.at_
def fnAt (K : PySem.W.Frag) (a : Addr) : He.FnW := match K.lookup a with
  | some ⟨_, _, .func fd, _⟩ => some (fd.name, fd.qualname, fd.params, fd.body, fd.scope, fd.globals, fd.closure, fd.builtins)
  | _ => none
def FSp.val (s : FSp) : He.FnW := some (s.name, s.qual, defArgs s.st, .stmts (defBody s.st), defScope s.st, mainGlobals, [], builtinsNs)
def isNoneV : Value → Bool
  | .none => true
  | _ => false
def FSp.okA (K : PySem.W.Frag) (s : FSp) : Bool := PySem.W.keepIn K (.ref (s.adr K)) && (match K.lookup (s.adr K) with
  | some ⟨_, _, .func fd, _⟩ => PySem.W.codeIn K fd.code s.qual && isNoneV fd.defaults
  | _ => false)
theorem FSp.fun_of {K : PySem.W.Frag} {s : FSp} (e : fnAt K (s.adr K) = s.val) (c : s.okA K = true) : ∃ fd, Fun K s.name s.qual s.st (s.adr K) fd := by
  unfold FSp.okA at c
  rw [Bool.and_eq_true] at c
  obtain ⟨kp, c2⟩ := c
  unfold fnAt at e
  cases q : K.lookup (s.adr K) with
  | none => rw [q] at c2; cases c2
  | some o =>
    obtain ⟨oc, od, dt, osl⟩ := o
    rw [q] at c2 e
    cases dt with
    | func fd =>
      obtain ⟨n1, n2, n3, n4, n5, n6, n7, n8, n9, n10, n11, n12, n13, n14, n15⟩ := fd
      have e2 : (some (n1, n2, n3, n4, n5, n6, n7, n15) : He.FnW) = some (s.name, s.qual, defArgs s.st, .stmts (defBody s.st), defScope s.st, mainGlobals, [], builtinsNs) := e
      simp only [Option.some.injEq, Prod.mk.injEq] at e2
      obtain ⟨h1, h2, h3, h4, h5, h6, h7, h8⟩ := e2
      subst h1 h2 h3 h4 h5 h6 h7 h8
      have c3 : (PySem.W.codeIn K n13 s.qual && isNoneV n8) = true := c2
      rw [Bool.and_eq_true] at c3
      obtain ⟨k1, k2⟩ := c3
      have e8 : n8 = .none := by
        cases n8 <;> first | rfl | cases k2
      subst e8
      exact ⟨_, ⟨oc, od, n9, n10, n11, n12, n13, n14, osl, rfl, q, k1⟩, kp⟩
    | _ => cases c2
structure CSp where
  E : ClE
  ini : FSp
  f1 : Str
  f2 : Str
structure LawD where
  mod : List Str
  fs : List FSp
  ks : List (Str × D)
  cn : List Str
  cs : List CSp
  es : List ESp
  hs : List FSp
  isE : List (Str × List (Nat × Bool))
  isB : List (String × List (Nat × Bool))
  file : Str
def FSp.hls (s : FSp) : Bool := match hdParse (defBody s.st) with
  | some t => t.ls
  | none => false
def FSp.hrest (s : FSp) : List Stmt := match hdParse (defBody s.st) with
  | some t => t.rest
  | none => []
def FSp.glb (s : FSp) : Bool := match s.at_.2 with
  | none => true
  | some _ => false
def LawD.G (L : LawD) (cf : Cf) : Gx := ⟨L.mod, (L.fs.filter FSp.glb).map fun s => ⟨s.at_.1, s.f, s.np, s.g⟩, L.ks, L.cs.map (·.E), L.es.map (·.E), L.hs.map (fun s => ⟨s.at_.1, s.f, s.hls⟩), L.isE, L.isB, cf⟩
def LawD.T (L : LawD) : Tab := fun f => match L.fs.find? fun s => decide (s.f = f) with
  | some s => some (s.fd L.G)
  | none => match L.cs.find? fun c => decide (c.ini.f = f) with
    | some c => some (c.ini.fdI L.G c.E.cn c.f1 c.f2)
    | none => match L.hs.find? fun s => decide (s.f = f) with
      | some s => some (s.fdH L.G s.hrest)
      | none => none
/-- a def's code object and its table -/
def codeA (K : PySem.W.Frag) (s : FSp) : Addr := match K.lookup (s.adr K) with
  | some ⟨_, _, .func fd, _⟩ => (match fd.code with
    | .ref c => c
    | _ => 0)
  | _ => 0
def tabA (K : PySem.W.Frag) (s : FSp) : Addr := He.tabOf K (codeA K s)
def LawD.lms (L : LawD) : List FSp := L.fs.filter (·.lm)
def LawD.kx (L : LawD) (K : PySem.W.Frag) : Kx := ⟨K, fun c => He.ga K (L.cn.getD c ""), L.lms.map fun s => (tabA K s, s.lamq), none⟩
def LawD.all (L : LawD) : List FSp := L.fs ++ (L.cs.map (·.ini) ++ L.hs)
def nodupN : List Nat → Bool
  | [] => true
  | x :: r => !r.contains x && nodupN r
theorem nodupN_of : ∀ {l : List Nat}, nodupN l = true → l.Nodup
  | [], _ => .nil
  | x :: r, h => by
    simp only [nodupN, Bool.and_eq_true, Bool.not_eq_true'] at h
    refine List.nodup_cons.mpr ⟨fun z => ?_, nodupN_of h.2⟩
    have := h.1
    simp [z] at this
def eqO (a b : Option (Option Value)) : Bool := decide (a = b)
theorem eqO_ok {a b : Option (Option Value)} (h : eqO a b = true) : a = b := of_decide_eq_true h
def slotB (K : PySem.W.Frag) (C : Addr) (f : Str) (i : Nat) : Bool := eqO (PySem.W.findIn K (.ref C) f) (some (some (.ref (He.ma K C f)))) && eqO (PySem.W.specialIn K (.ref (He.ma K C f)) "__get__") (some (some (.builtin "member_descriptor.__get__"))) && decide (PySem.W.takesIn K (.ref (He.ma K C f)) = some true) &&
  decide (PySem.W.typeIn K (.ref (He.ma K C f)) = some (.type "member_descriptor")) && decide (PySem.W.slotIn K (He.ma K C f) C = some i) && decide (i < 1000)
theorem slotB_ok {K : PySem.W.Frag} {C : Addr} {f : Str} {i : Nat} (h : slotB K C f i = true) : SlX.Slot1 K C f (He.ma K C f) i := by
  unfold slotB at h
  simp only [Bool.and_eq_true, decide_eq_true_eq] at h
  obtain ⟨⟨⟨⟨⟨h1, h2⟩, h3⟩, h4⟩, h5⟩, h6⟩ := h
  exact ⟨eqO_ok h1, eqO_ok h2, h3, h4, h5, h6⟩
def sclsB (K : PySem.W.Frag) (C : Addr) : Bool := PySem.W.plainGet K C Str.empty && PySem.W.isClsIn K C && PySem.W.plainOver K C && eqO (PySem.W.findIn K (.ref C) "__setattr__") (some (some (.builtin "object.__setattr__")))
theorem sclsB_ok {K : PySem.W.Frag} {C : Addr} (h : sclsB K C = true) : SlX.SCls K C := by
  unfold sclsB at h
  simp only [Bool.and_eq_true] at h
  obtain ⟨⟨⟨h1, h2⟩, h3⟩, h4⟩ := h
  exact ⟨h1, h2, h3, eqO_ok h4⟩
def iscB (K : PySem.W.Frag) (C : Addr) : Bool := sclsB K C && eqO (PySem.W.findIn K (.ref C) "__class__") (some (some (.builtin "object.__class__"))) && eqO (PySem.W.specialIn K (.builtin "object.__class__") "__get__") (some (some (.builtin "getset_descriptor.__get__"))) && decide (PySem.W.takesIn K (.builtin "object.__class__") = some true) && decide (PySem.W.mroIn K C (.type "object") = some true) &&
  decide (PySem.W.kitOne K (.ref C) (.ref C) = some true) && decide (PySem.W.kitOne K (.type "NoneType") (.ref C) = some false) && decide (PySem.W.kitOne K (.type "bool") (.ref C) = some false) && decide (PySem.W.kitOne K (.type "int") (.ref C) = some false) && decide (PySem.W.kitOne K (.type "str") (.ref C) = some false) &&
  decide (PySem.W.kitOne K (.type "tuple") (.ref C) = some false) && decide (PySem.W.kitOne K (.type "list") (.ref C) = some false) && decide (PySem.W.kitOne K (.type "dict") (.ref C) = some false)
theorem iscB_ok {K : PySem.W.Frag} {C : Addr} (h : iscB K C = true) : IsC K C := by
  unfold iscB at h
  simp only [Bool.and_eq_true, decide_eq_true_eq] at h
  obtain ⟨⟨⟨⟨⟨⟨⟨⟨⟨⟨⟨⟨h1, h2⟩, h3⟩, h4⟩, h5⟩, h6⟩, h7⟩, h8⟩, h9⟩, h10⟩, h11⟩, h12⟩, h13⟩ := h
  exact ⟨sclsB_ok h1, ⟨eqO_ok h2, eqO_ok h3, h4, h5⟩, h6, h7, h8, h9, h10, h11, h12, h13⟩
def methB (K : PySem.W.Frag) (C : Addr) (m : Str) : Bool := eqO (PySem.W.findIn K (.ref C) m) (some (some (.ref (He.ma K C m)))) && PySem.W.isFn K (.ref (He.ma K C m))
def propB (K : PySem.W.Frag) (C : Addr) (m : Str) : Bool := eqO (PySem.W.findIn K (.ref C) m) (some (some (.ref (He.ma K C m)))) && eqO (PySem.W.specialIn K (.ref (He.ma K C m)) "__get__") (some (some (.builtin "property.__get__"))) && decide (PySem.W.takesIn K (.ref (He.ma K C m)) = some true) &&
  (match PySem.W.recIn K (He.ma K C m) "property" with
    | some (.ref _ :: _) => true
    | _ => false)
theorem propB_ok {K : PySem.W.Frag} {C : Addr} {m : Str} (h : propB K C m = true) : ∃ q, PySem.W.findIn K (.ref C) m = some (some (.ref q)) ∧ PySem.W.specialIn K (.ref q) "__get__" = some (some (.builtin "property.__get__")) ∧ PySem.W.takesIn K (.ref q) = some true ∧ (∃ rest, PySem.W.recIn K q "property" = some (.ref (propFn K q) :: rest)) ∧ q = He.ma K C m := by
  unfold propB at h
  simp only [Bool.and_eq_true, decide_eq_true_eq] at h
  obtain ⟨⟨⟨h1, h2⟩, h3⟩, h4⟩ := h
  refine ⟨_, eqO_ok h1, eqO_ok h2, h3, ?_, rfl⟩
  split at h4
  · rename_i fa rest q
    refine ⟨rest, ?_⟩
    unfold propFn
    rw [q]
  · cases h4
def CSp.factB (K : PySem.W.Frag) (c : CSp) : Bool :=
  eqO (PySem.W.nsIn K mainGlobals c.E.name) (some (some (.ref (He.ga K c.E.name)))) && PySem.W.keepIn K (.ref (He.ga K c.E.name)) && iscB K (He.ga K c.E.name) && (c.E.flds.all fun p => slotB K (He.ga K c.E.name) p.1 p.2) && (c.E.props.all fun p => propB K (He.ga K c.E.name) p.1) &&
  PySem.W.makesIn K (He.ga K c.E.name) && methB K (He.ga K c.E.name) "__init__" && methB K (He.ga K c.E.name) "__len__" && methB K (He.ga K c.E.name) "__eq__" && (c.E.meths.all fun p => methB K (He.ga K c.E.name) p.1 && PySem.W.keepIn K (.ref (He.ma K (He.ga K c.E.name) p.1))) && eqO (PySem.W.findIn K (.ref (He.ga K c.E.name)) "__ne__") (some (some (.builtin "object.__ne__"))) && natB K (He.ga K c.E.name) && leftB K (He.ga K c.E.name)
/-- the text fits -/
def FSp.isAt (s : FSp) (c m : Str) (pr : Bool) (f np : Nat) : Bool := decide (s.at_ = (c, some m)) && decide (s.pr = pr) && decide (s.f = f) && decide (s.np = np) && decide (s.g = false)
def CSp.fitB (L : LawD) (c : CSp) : Bool := decide (L.cn.getD c.E.cn "" = c.E.name) && (c.E.props.all fun p => L.fs.any fun s => s.isAt c.E.name p.1 true p.2 1) && (L.fs.any fun s => s.isAt c.E.name "__len__" false c.E.fLen 1) && (L.fs.any fun s => s.isAt c.E.name "__eq__" false c.E.fEq 2) && (c.E.meths.all fun p => L.fs.any fun s => s.isAt c.E.name p.1 false p.2.1 p.2.2) &&
  c.ini.okI && decide (c.ini.at_ = (c.E.name, some ("__init__" : Str))) && decide (c.ini.pr = false) && decide (c.ini.f = c.E.fInit) && decide (c.ini.np = c.E.npInit + 1) && decide (c.ini.g = false) && decide (c.ini.lm = false) && decide ((c.f1, 1) ∈ c.E.flds) && decide ((c.f2, 0) ∈ c.E.flds)
def ksB (K : PySem.W.Frag) (p : Str × D) : Bool := match PySem.W.nsIn K mainGlobals p.1 with
  | some (some u) => relDK K 3 p.2 u
  | _ => false
def hdFact (L : LawD) (K : PySem.W.Frag) (s : FSp) : Bool := eqO (PySem.W.nsIn K mainGlobals s.at_.1) (some (some (.ref (He.ga K s.at_.1)))) && (match hdParse (defBody s.st) with
  | some t => eqO (PySem.W.nsIn K mainGlobals t.x1) (some (some (.ref (He.ga K t.x1)))) && eqO (PySem.W.nsIn K mainGlobals t.x2) (some (some (.ref (He.ga K t.x2)))) && L.es.all fun e => decide (PySem.W.exmAny K (.ref (He.ga K e.E.name)) [.ref (He.ga K t.x1), .ref (He.ga K t.x2)] = some true)
  | none => false)
def isEB (L : LawD) (K : PySem.W.Frag) (p : Str × List (Nat × Bool)) : Bool := eqO (PySem.W.nsIn K mainGlobals p.1) (some (some (.ref (He.ga K p.1)))) && p.2.all fun q => exiB K (He.ga K (L.cn.getD q.1 "")) && decide (PySem.W.kitOne K (.ref (He.ga K (L.cn.getD q.1 ""))) (.ref (He.ga K p.1)) = some q.2)
def isBB (L : LawD) (K : PySem.W.Frag) (p : String × List (Nat × Bool)) : Bool := p.2.all fun q => exiB K (He.ga K (L.cn.getD q.1 "")) && decide (PySem.W.kitOne K (.ref (He.ga K (L.cn.getD q.1 ""))) (.type p.1) = some q.2)
def LawD.factX (L : LawD) (K : PySem.W.Frag) : Bool := (L.es.all fun e => e.factB K L.file) && (L.hs.all fun s => hdFact L K s) && (L.isE.all fun p => isEB L K p) && (L.isB.all fun p => isBB L K p) && modB K
def LawD.factB (L : LawD) (K : PySem.W.Frag) : Bool := L.factX K && (BLT.all fun x => L.mod.contains x || eqO (PySem.W.nsIn K mainGlobals x) (some none)) && (L.fs.all fun s => !s.glb || eqO (PySem.W.nsIn K mainGlobals s.at_.1) (some (some (.ref (He.ga K s.at_.1))))) && (L.ks.all fun p => ksB K p) && (L.cs.all fun c => c.factB K) && nodupN (L.lms.map (tabA K)) && L.lms.all fun s => PySem.W.codeHdIn K (codeA K s) (tabA K s)
def hdFit (s : FSp) : Bool := s.glb && !s.pr && !s.lm && decide (s.at_.1 = s.name) && (match hdParse (defBody s.st) with
  | some t => s.hdOk t
  | none => false)
def LawD.fitX (L : LawD) : Bool := (L.es.all fun e => e.okS && decide (L.cn.getD e.E.cn "" = e.E.name)) && (L.hs.all fun s => hdFit s) && !L.mod.contains "super"
def LawD.fitB (L : LawD) : Bool := L.fitX && (L.fs.all fun s => s.ok && !(s.glb && s.pr)) && (L.cs.all fun c => c.fitB L) && nodupN (L.all.map (·.f))
theorem find_num {α : Type} {f : α → Nat} : ∀ {l : List α} {s : α}, (l.map f).Nodup → s ∈ l → (l.find? fun t => decide (f t = f s)) = some s
  | [], _, _, h => by cases h
  | x :: r, s, hn, h => by
    rw [List.map_cons, List.nodup_cons] at hn
    rcases List.mem_cons.mp h with rfl | h
    · simp
    · have hne : f x ≠ f s := fun e => hn.1 (by rw [e]; exact List.mem_map_of_mem h)
      rw [List.find?_cons_of_neg (by simpa using hne)]
      exact find_num hn.2 h
theorem find_no {α : Type} {f : α → Nat} {l : List α} {n : Nat} (h : n ∉ l.map f) : (l.find? fun t => decide (f t = n)) = none := by
  rw [List.find?_eq_none]
  intro x hx
  simp only [decide_eq_true_eq]
  exact fun e => h (by rw [← e]; exact List.mem_map_of_mem hx)
section
variable {L : LawD}
theorem LawD.nums (h : L.fitB = true) : (L.all.map (·.f)).Nodup := by
  unfold LawD.fitB at h
  simp only [Bool.and_eq_true] at h
  exact nodupN_of h.2
theorem LawD.nums3 (h : L.fitB = true) : (L.fs.map (·.f)).Nodup ∧ (L.cs.map (FSp.f ∘ CSp.ini)).Nodup ∧ (L.hs.map (·.f)).Nodup ∧ (∀ x ∈ L.fs.map (·.f), x ∉ L.cs.map (FSp.f ∘ CSp.ini) ∧ x ∉ L.hs.map (·.f)) ∧ ∀ x ∈ L.cs.map (FSp.f ∘ CSp.ini), x ∉ L.hs.map (·.f) := by
  have hn := L.nums h
  unfold LawD.all at hn
  rw [List.map_append, List.map_append, List.map_map] at hn
  obtain ⟨h1, h2, h3⟩ := List.nodup_append.mp hn
  obtain ⟨h4, h5, h6⟩ := List.nodup_append.mp h2
  exact ⟨h1, h4, h5, fun x hx => ⟨fun z => h3 x hx x (List.mem_append_left _ z) rfl, fun z => h3 x hx x (List.mem_append_right _ z) rfl⟩, fun x hx z => h6 x hx x z rfl⟩
theorem LawD.T_fs (h : L.fitB = true) {s : FSp} (hs : s ∈ L.fs) : L.T s.f = some (s.fd L.G) := by
  unfold LawD.T
  rw [find_num (f := FSp.f) (L.nums3 h).1 hs]
theorem LawD.T_cs (h : L.fitB = true) {c : CSp} (hc : c ∈ L.cs) : L.T c.ini.f = some (c.ini.fdI L.G c.E.cn c.f1 c.f2) := by
  obtain ⟨h1, h2, h3, h4, h5⟩ := L.nums3 h
  have hm : c.ini.f ∈ L.cs.map (FSp.f ∘ CSp.ini) := List.mem_map_of_mem (f := FSp.f ∘ CSp.ini) hc
  unfold LawD.T
  rw [find_no (f := FSp.f) (fun z => (h4 _ z).1 hm)]
  have := find_num (f := FSp.f ∘ CSp.ini) h2 hc
  simp only [Function.comp] at this
  rw [this]
theorem LawD.T_hs (h : L.fitB = true) {s : FSp} (hs : s ∈ L.hs) : L.T s.f = some (s.fdH L.G s.hrest) := by
  obtain ⟨h1, h2, h3, h4, h5⟩ := L.nums3 h
  have hm : s.f ∈ L.hs.map (·.f) := List.mem_map_of_mem (f := FSp.f) hs
  unfold LawD.T
  rw [find_no (f := FSp.f) (fun z => (h4 _ z).2 hm)]
  have := find_no (f := FSp.f ∘ CSp.ini) (l := L.cs) (n := s.f) (fun z => h5 _ z hm)
  simp only [Function.comp] at this
  rw [this, find_num (f := FSp.f) h3 hs]
structure SaysQ (L : LawD) (K : PySem.W.Frag) (h : Heap) : Prop where
  xs : ∀ e ∈ L.es, fnAtX K (e.adr K) = e.val
  fn : ∀ s ∈ L.all, ∃ fd, Fun K s.name s.qual s.st (s.adr K) fd
  ex : L.factB K = true
  out : ∀ s ∈ L.lms, K.lookup (tabA K s) = none
  empty : ∀ s ∈ L.lms, h.get? (tabA K s) = some { cls := .none, data := .fields #[] }
def asX (g : Addr → Option Obj) (n : Nat) : List Addr := He.asD g n ++ [cStatics, sysModules]
def tabsQ (g : Addr → Option Obj) (L : LawD) (K : PySem.W.Frag) : Bool := L.lms.all fun s => match g (tabA K s) with
  | some o => He.emptyTab o
  | none => false
def LawD.obs (L : LawD) (n : Nat) (g : Addr → Option Obj) : Bool × List He.FnW := (L.factB (He.frT g (asX g n)) && L.all.all (fun s => s.okA (He.frT g (asX g n))) && tabsQ g L (He.frT g (asX g n)), (L.all.map fun s => fnAt (He.frT g (asX g n)) (s.adr (He.frT g (asX g n)))) ++ L.es.map fun e => fnAtX (He.frT g (asX g n)) (e.adr (He.frT g (asX g n))))
def LawD.valQ (L : LawD) : Bool × List He.FnW := (true, L.all.map FSp.val ++ L.es.map ESp.val)
theorem saysQ_of {n : Nat} {h : Heap} (e : L.obs n h.get? = L.valQ) : SaysQ L (He.frT h.get? (asX h.get? n)) h := by
  generalize hg : h.get? = g at *
  have e1 : (L.factB (He.frT g (asX g n)) && L.all.all (fun s => s.okA (He.frT g (asX g n))) && tabsQ g L (He.frT g (asX g n))) = true := congrArg (fun z : Bool × List He.FnW => z.1) e
  have e0 : (L.all.map fun s => fnAt (He.frT g (asX g n)) (s.adr (He.frT g (asX g n)))) ++ (L.es.map fun e => fnAtX (He.frT g (asX g n)) (e.adr (He.frT g (asX g n)))) = L.all.map FSp.val ++ L.es.map ESp.val := congrArg (fun z : Bool × List He.FnW => z.2) e
  obtain ⟨e2, e3⟩ := List.append_inj e0 (by rw [List.length_map, List.length_map])
  rw [Bool.and_eq_true, Bool.and_eq_true] at e1
  have key : ∀ s ∈ L.lms, ∃ o, g (tabA (He.frT g (asX g n)) s) = some o ∧ He.emptyTab o = true := fun s hs => by
    have z := List.all_eq_true.mp e1.2 s hs
    cases q : g (tabA (He.frT g (asX g n)) s) with
    | none => rw [q] at z; cases z
    | some o => rw [q] at z; exact ⟨o, rfl, z⟩
  refine ⟨fun x hx => List.map_inj_left.mp e3 x hx, fun s hs => FSp.fun_of ?_ (List.all_eq_true.mp e1.1.2 s hs), e1.1.1, fun s hs => ?_, fun s hs => ?_⟩
  · exact List.map_inj_left.mp e2 s hs
  · obtain ⟨o, q, z⟩ := key s hs
    exact He.frT_none q z
  · obtain ⟨o, q, z⟩ := key s hs
    rw [hg, q, He.emptyTab_eq z]
def LawD.hook (L : LawD) (n : Nat) : PySem.W.Hook where
  α := Bool × List He.FnW
  obs := fun s => L.obs n s.heap.get?
  val := fun _ => L.valQ
  says := fun _ h => ∃ K : PySem.W.Frag, K.In h ∧ SaysQ L K h
  of := fun _ _ e => ⟨_, He.frT_in, saysQ_of e⟩
  keeps := fun _ _ _ ⟨K, hK, c⟩ k => ⟨K, PySem.W.Frag.In.keeps hK k, c.xs, c.fn, c.ex, c.out, fun s hs => k _ _ (c.empty s hs)⟩
theorem LawD.obs_eq {n : Nat} {g : Addr → Option Obj} {s : Shared} (h : ∀ a, g a = s.heap.get? a) : L.obs n g = (L.hook n).obs s := by
  have e : g = s.heap.get? := funext h
  rw [e] <;> rfl
end
end Qi
namespace Qi
open PySem PySem.Spec L2 PyProof.Rows
section
variable {P : Program} {w : World} {L : LawD} {K : PySem.W.Frag} {mg : Str → Option Value} {base : Heap}
def FnAll (P : Program) (w : World) (L : LawD) (K : PySem.W.Frag) (mg : Str → Option Value) (base : Heap) (k : Nat) : Prop := ∀ s ∈ L.fs, ∀ m fd, Fun K s.name s.qual s.st (s.adr K) fd →
  (s.g = false → FnOk P w K mg base (L2.CX P w) (7 * k) (s.adr K) fd s.ps (CallSp ((L.kx K).pin m) (callN L.T k) s.f s.np)) ∧ FnG P w K mg base (L2.CX P w) (7 * k) (s.adr K) fd s.ps (CallSp ((L.kx K).pin m) (callN L.T k) s.f s.np)
def IniAll (P : Program) (w : World) (L : LawD) (K : PySem.W.Frag) (mg : Str → Option Value) (base : Heap) (k : Nat) : Prop := ∀ c ∈ L.cs, ∀ m fd, Fun K c.ini.name c.ini.qual c.ini.st (c.ini.adr K) fd →
  FnOk P w K mg base (L2.CX P w) (7 * k) (c.ini.adr K) fd c.ini.ps (InitSp ((L.kx K).pin m) (He.ga K c.E.name) (callN L.T k) c.E.fInit c.E.npInit)
def HdAll (P : Program) (w : World) (L : LawD) (K : PySem.W.Frag) (mg : Str → Option Value) (base : Heap) (k : Nat) : Prop := ∀ s ∈ L.hs, ∀ t, hdParse (defBody s.st) = some t → ∀ m fd, Fun K s.name s.qual s.st (s.adr K) fd →
  HdOk P w ((L.kx K).pin m) mg base (7 * k + 4) s.N s.name (defScope s.st) (s.adr K) fd.code t.a (defBody s.st) (callN L.T k) s.f t.ls (L.G (callN L.T k)).exB
theorem hd_zero {K' : Kx} {kk : Nat} {Ng : List Str} {qg : Str} {sg : Scope} {ga : Addr} {cdg : Value} {a : Str} {bg : List Stmt} {T : Tab} {fH : Nat} {ls : Bool} {ct : Nat → Bool} : HdOk P w K' mg base kk Ng qg sg ga cdg a bg (callN T 0) fH ls ct := by
  intro A outer s H f c' q Q E tl B j S r hr act hco R sem out
  have : hres (callN T 0) fH ls ct (r S) = .stuck := by
    unfold hres
    split
    · rfl
    · split <;> rfl
    · rfl
  rw [this] at out
  exact out.elim
theorem FSp.adr_g {s : FSp} (h : s.pr = false) : s.adr K = He.fAd K s.at_ := by unfold FSp.adr; rw [h]; rfl
theorem FSp.isAt_of {s : FSp} {c m : Str} {pr : Bool} {f np : Nat} (h : s.isAt c m pr f np = true) : s.at_ = (c, some m) ∧ s.pr = pr ∧ s.f = f ∧ s.np = np ∧ s.g = false := by
  unfold FSp.isAt at h
  simp only [Bool.and_eq_true, decide_eq_true_eq] at h
  obtain ⟨⟨⟨⟨h1, h2⟩, h3⟩, h4⟩, h5⟩ := h
  exact ⟨h1, h2, h3, h4, h5⟩
structure CFit (L : LawD) (c : CSp) : Prop where
  cn : L.cn.getD c.E.cn "" = c.E.name
  props : ∀ p ∈ c.E.props, ∃ s ∈ L.fs, s.at_ = (c.E.name, some p.1) ∧ s.pr = true ∧ s.f = p.2 ∧ s.np = 1 ∧ s.g = false
  len : ∃ s ∈ L.fs, s.at_ = (c.E.name, some ("__len__" : Str)) ∧ s.pr = false ∧ s.f = c.E.fLen ∧ s.np = 1 ∧ s.g = false
  eq : ∃ s ∈ L.fs, s.at_ = (c.E.name, some ("__eq__" : Str)) ∧ s.pr = false ∧ s.f = c.E.fEq ∧ s.np = 2 ∧ s.g = false
  meth : ∀ p ∈ c.E.meths, ∃ s ∈ L.fs, s.at_ = (c.E.name, some p.1) ∧ s.pr = false ∧ s.f = p.2.1 ∧ s.np = p.2.2 ∧ s.g = false
  okI : c.ini.okI = true
  at_ : c.ini.at_ = (c.E.name, some ("__init__" : Str))
  pr : c.ini.pr = false
  f : c.ini.f = c.E.fInit
  np : c.ini.np = c.E.npInit + 1
  g : c.ini.g = false
  lm : c.ini.lm = false
  f1 : (c.f1, 1) ∈ c.E.flds
  f2 : (c.f2, 0) ∈ c.E.flds
theorem CSp.fit_of {c : CSp} (h : c.fitB L = true) : CFit L c := by
  unfold CSp.fitB at h
  simp only [Bool.and_eq_true, decide_eq_true_eq] at h
  obtain ⟨⟨⟨⟨⟨⟨⟨⟨⟨⟨⟨⟨⟨h1, h2⟩, h3⟩, h4⟩, h4b⟩, h5⟩, h6⟩, h7⟩, h8⟩, h9⟩, h10⟩, h13⟩, h11⟩, h12⟩ := h
  refine ⟨h1, fun p hp => ?_, ?_, ?_, fun p hp => ?_, h5, h6, h7, h8, h9, h10, h13, h11, h12⟩
  · obtain ⟨s, hs, z⟩ := List.any_eq_true.mp (List.all_eq_true.mp h2 p hp)
    exact ⟨s, hs, FSp.isAt_of z⟩
  · obtain ⟨s, hs, z⟩ := List.any_eq_true.mp h3
    exact ⟨s, hs, FSp.isAt_of z⟩
  · obtain ⟨s, hs, z⟩ := List.any_eq_true.mp h4
    exact ⟨s, hs, FSp.isAt_of z⟩
  · obtain ⟨s, hs, z⟩ := List.any_eq_true.mp (List.all_eq_true.mp h4b p hp)
    exact ⟨s, hs, FSp.isAt_of z⟩
theorem methB_ok {C : Addr} {m : Str} (h : methB K C m = true) : PySem.W.findIn K (.ref C) m = some (some (.ref (He.ma K C m))) ∧ PySem.W.isFn K (.ref (He.ma K C m)) = true := by
  unfold methB at h
  rw [Bool.and_eq_true] at h
  exact ⟨eqO_ok h.1, h.2⟩
theorem inj_of {α : Type} {f : α → Nat} : ∀ {l : List α} {x y : α}, (l.map f).Nodup → x ∈ l → y ∈ l → f x = f y → x = y
  | [], _, _, _, h, _, _ => by cases h
  | z :: r, x, y, hn, hx, hy, e => by
    rw [List.map_cons, List.nodup_cons] at hn
    rcases List.mem_cons.mp hx with h1 | h1 <;> rcases List.mem_cons.mp hy with h2 | h2
    · rw [h1, h2]
    · exact absurd (by rw [← h1, e]; exact List.mem_map_of_mem h2) hn.1
    · exact absurd (by rw [← h2, ← e]; exact List.mem_map_of_mem h1) hn.1
    · exact inj_of hn.2 h1 h2 e
theorem lamS_of {hp : Heap} (c : SaysQ L K hp) (TB : ∀ s ∈ L.lms, LamX.TabB base mg (codeA K s) (tabA K s)) {s : FSp} (hs : s ∈ L.fs) {fd : FuncData} (F : Fun K s.name s.qual s.st (s.adr K) fd) (m : Option (Addr × HO)) : LamS0 ((L.kx K).pin m) mg base s fd := fun hl => by
  have hm : s ∈ L.lms := List.mem_filter.mpr ⟨hs, hl⟩
  obtain ⟨oc, od, kV, doc, pm, an, cdv, ct, osl, rfl, lk, hcd⟩ := F.ex
  obtain ⟨cc, rfl⟩ := He.codeIn_ref hcd
  have ec : codeA K s = cc := by
    unfold codeA
    rw [lk]
  have hx := c.ex
  unfold LawD.factB at hx
  simp only [Bool.and_eq_true] at hx
  have nd : (L.lms.map (tabA K)).Nodup := nodupN_of hx.1.2
  refine ⟨cc, tabA K s, rfl, by rw [← ec]; exact TB s hm, List.mem_map_of_mem (f := fun s => (tabA K s, s.lamq)) hm, fun p hp e => ?_⟩
  have hp : p ∈ L.lms.map fun s => (tabA K s, s.lamq) := hp
  obtain ⟨s', hs', rfl⟩ := List.mem_map.mp hp
  have : s' = s := inj_of (f := tabA K) nd hs' hm e
  rw [this]
theorem gok_of {hp : Heap} (htop : (P.main.scope.names.lookup ("super" : Str)).isSome = false) (hfile : P.main.file = L.file) (h : L.fitB = true) (hb : ∀ s ∈ L.all, BindA (defArgs s.st) s.ps) (c : SaysQ L K hp) (X : K.In base) (G : base.Ns mainGlobals mg) {k : Nat} (fa : FnAll P w L K mg base k) (ia : IniAll P w L K mg base k) (ha : HdAll P w L K mg base k) (m : Option (Addr × HO)) : GOk (L.G (callN L.T k)) k P w ((L.kx K).pin m) mg base := by
  have hfit := h
  unfold LawD.fitB at h
  simp only [Bool.and_eq_true] at h
  obtain ⟨⟨⟨f0, f1⟩, f2⟩, f3⟩ := h
  have hx := c.ex
  unfold LawD.factB at hx
  simp only [Bool.and_eq_true] at hx
  obtain ⟨⟨⟨⟨⟨⟨x0, x1⟩, x2⟩, x3⟩, x4⟩, x5⟩, x6⟩ := hx
  unfold LawD.fitX at f0
  unfold LawD.factX at x0
  simp only [Bool.and_eq_true, Bool.not_eq_true'] at f0 x0
  obtain ⟨⟨fe, fh⟩, fsup⟩ := f0
  obtain ⟨⟨⟨⟨xe, xh⟩, xi⟩, xb⟩, xm⟩ := x0
  have bl : ∀ x, BLT.contains x = true → L.mod.contains x = false → mg x = none := fun x hx hm => by
    have z := List.all_eq_true.mp x1 x (by simpa using hx)
    rw [hm, Bool.false_or] at z
    exact PySem.W.mg_none_of X G (eqO_ok z)
  have exo : ∀ e ∈ L.es, ((L.kx K).pin m).cl e.E.cn = He.ga K e.E.name ∧ ExOk P K mg (He.ga K e.E.name) e.E := fun e he => by
    have z := List.all_eq_true.mp fe e he
    simp only [Bool.and_eq_true, decide_eq_true_eq] at z
    have y := List.all_eq_true.mp xe e he
    have y1 : PySem.W.nsIn K mainGlobals e.E.name = some (some (.ref (He.ga K e.E.name))) := by
      have y' := y
      unfold ESp.factB eqV at y'
      simp only [Bool.and_eq_true, decide_eq_true_eq] at y'
      exact y'.1.1.1.1.1.1.1.1.1.1.1.1.1.1
    refine ⟨?_, ex_of z.1 y (c.xs e he) htop hfile (bl "super" (by decide +kernel) fsup) (PySem.W.mg_of X G y1)⟩
    show He.ga K (L.cn.getD e.E.cn "") = _
    rw [z.2]
  have inAll : ∀ {s : FSp}, s ∈ L.fs → s ∈ L.all := fun hs => List.mem_append_left _ hs
  have raw : ∀ {s : FSp} {cf : Cf}, s ∈ L.fs → s.g = false → ∃ fd, Fun K s.name s.qual s.st (s.adr K) fd ∧ FnR P w K mg base (L2.CX P w) (7 * k) (s.adr K) (CallSp ((L.kx K).pin m) (callN L.T k) s.f s.np) := fun {s cf} hs hg => by
    obtain ⟨fd, F⟩ := c.fn s (inAll hs)
    have q := ((fa s hs m fd F).1 hg).raw (FSp.binds (hb s (inAll hs)) F) .nil
    exact ⟨fd, F, q.imp fun vs H Q E z => by rw [List.append_nil]; exact z⟩
  refine ⟨bl, fun E hE => ?_, fun p hp => ?_, fun E hE => ?_, fun E hE => ?_, fun E hE => ?_, fun p hp => ?_, fun p hp q hq => ?_, ?_⟩
  · obtain ⟨s, hs, rfl⟩ := List.mem_map.mp hE
    obtain ⟨hs, hgl⟩ := List.mem_filter.mp hs
    have z := List.all_eq_true.mp f1 s hs
    rw [Bool.and_eq_true] at z
    have hpr : s.pr = false := by
      have := z.2
      rw [hgl] at this
      simpa using this
    obtain ⟨fd, F⟩ := c.fn s (inAll hs)
    have y := List.all_eq_true.mp x2 s hs
    rw [hgl, Bool.not_true, Bool.false_or] at y
    have ea : s.adr K = He.ga K s.at_.1 := by
      rw [FSp.adr_g hpr]
      unfold FSp.glb at hgl
      unfold He.fAd
      cases q : s.at_.2 with
      | none => rfl
      | some _ => rw [q] at hgl; cases hgl
    refine ⟨s.adr K, fd, s.ps, ?_, F.kp, FSp.binds (hb s (inAll hs)) F, (fa s hs m fd F).2, (fa s hs m fd F).1⟩
    rw [ea]
    exact PySem.W.mg_of X G (eqO_ok y)
  · have z := List.all_eq_true.mp x3 p hp
    unfold ksB at z
    split at z
    · rename_i u q
      obtain ⟨v, r1, r2⟩ := relDK_ok z
      exact ⟨v, u, PySem.W.mg_of X G q, r1, fun w' e => r2 w' e⟩
    · cases z
  · obtain ⟨cs, hc, rfl⟩ := List.mem_map.mp hE
    have fit := CSp.fit_of (List.all_eq_true.mp f2 cs hc)
    have z := List.all_eq_true.mp x4 cs hc
    unfold CSp.factB at z
    simp only [Bool.and_eq_true] at z
    obtain ⟨⟨⟨⟨⟨⟨⟨⟨⟨⟨⟨⟨z1, z2⟩, z3⟩, z4⟩, z5⟩, z6⟩, z7⟩, z8⟩, z9⟩, z9b⟩, z10⟩, zn⟩, zl⟩ := z
    have eC : ((L.kx K).pin m).cl cs.E.cn = He.ga K cs.E.name := by
      show He.ga K (L.cn.getD cs.E.cn "") = _
      rw [fit.cn]
    have isc := iscB_ok z3
    have aI : cs.ini.adr K = He.ma K (He.ga K cs.E.name) "__init__" := by
      rw [FSp.adr_g fit.pr, fit.at_]; rfl
    refine ⟨by rw [eC]; exact PySem.W.mg_of X G (eqO_ok z1), by rw [eC]; exact z2, by rw [eC]; exact isc.sc, by rw [eC]; exact isc, fun p hp => ⟨_, by rw [eC]; exact slotB_ok (List.all_eq_true.mp z4 p hp)⟩, fun p hp => ?_, ?_, ?_, ?_, by rw [eC]; exact eqO_ok z10, fun p hp => ?_, by rw [eC]; exact isc.si.cm, by rw [eC]; exact zn, by rw [eC]; exact zl⟩
    · obtain ⟨q, y1, y2, y3, y4, rfl⟩ := propB_ok (List.all_eq_true.mp z5 p hp)
      obtain ⟨s, hs, e1, e2, e3, e4, e5⟩ := fit.props p hp
      obtain ⟨fd, F, R⟩ := raw (cf := callN L.T k) hs e5
      rw [eC]
      refine ⟨_, _, y1, y2, y3, y4, ?_⟩
      have ea : s.adr K = propFn K (He.ma K (He.ga K cs.E.name) p.1) := by
        unfold FSp.adr
        rw [e2, if_pos rfl, e1]; rfl
      rw [← ea, ← e3]
      rw [e4] at R
      exact R
    · obtain ⟨fd, F⟩ := c.fn cs.ini (List.mem_append_right _ (List.mem_append_left _ (List.mem_map_of_mem hc)))
      obtain ⟨y1, y2⟩ := methB_ok z7
      rw [eC]
      refine ⟨cs.ini.adr K, fd, cs.ini.ps, ?_, ia cs hc m fd F, FSp.binds (hb cs.ini (List.mem_append_right _ (List.mem_append_left _ (List.mem_map_of_mem hc)))) F⟩
      rw [aI]
      exact ⟨z6, y1, y2, z2⟩
    · obtain ⟨y1, y2⟩ := methB_ok z8
      obtain ⟨s, hs, e1, e2, e3, e4, e5⟩ := fit.len
      obtain ⟨fd, F, R⟩ := raw (cf := callN L.T k) hs e5
      have ea : s.adr K = He.ma K (He.ga K cs.E.name) "__len__" := by rw [FSp.adr_g e2, e1]; rfl
      rw [ea, e3, e4] at R
      rw [eC]
      exact ⟨_, y1, y2, R⟩
    · obtain ⟨y1, y2⟩ := methB_ok z9
      obtain ⟨s, hs, e1, e2, e3, e4, e5⟩ := fit.eq
      obtain ⟨fd, F, R⟩ := raw (cf := callN L.T k) hs e5
      have ea : s.adr K = He.ma K (He.ga K cs.E.name) "__eq__" := by rw [FSp.adr_g e2, e1]; rfl
      rw [ea, e3, e4] at R
      rw [eC]
      exact ⟨_, y1, y2, R⟩
    · have y := List.all_eq_true.mp z9b p hp
      simp only [Bool.and_eq_true] at y
      obtain ⟨y1, y2⟩ := methB_ok y.1
      obtain ⟨s, hs, e1, e2, e3, e4, e5⟩ := fit.meth p hp
      obtain ⟨fd, F, R⟩ := raw (cf := callN L.T k) hs e5
      have ea : s.adr K = He.ma K (He.ga K cs.E.name) p.1 := by rw [FSp.adr_g e2, e1]; rfl
      rw [ea, e3, e4] at R
      rw [eC]
      exact ⟨_, ⟨y1, y2, y.2⟩, R⟩
  · obtain ⟨e, he, rfl⟩ := List.mem_map.mp hE
    obtain ⟨z1, z2⟩ := exo e he
    rw [z1]
    exact z2
  · obtain ⟨s, hs, rfl⟩ := List.mem_map.mp hE
    have z := List.all_eq_true.mp fh s hs
    have y := List.all_eq_true.mp xh s hs
    unfold hdFit at z
    unfold hdFact at y
    simp only [Bool.and_eq_true, Bool.not_eq_true', decide_eq_true_eq] at z y
    obtain ⟨⟨⟨⟨z1, z2⟩, z3⟩, z4⟩, z5⟩ := z
    cases hp : hdParse (defBody s.st) with
    | none => rw [hp] at z5; cases z5
    | some t =>
      rw [hp] at z5
      have z5 : s.hdOk t = true := z5
      have hsA : s ∈ L.all := List.mem_append_right _ (List.mem_append_right _ hs)
      obtain ⟨fd, F⟩ := c.fn s hsA
      have hk := F.kp
      have hB := FSp.binds (hb s hsA) F
      have hd := ha s hs t hp m fd F
      obtain ⟨oc, od, kV, doc, pm, an, cdv, ct, osl, rfl, lk, hcd⟩ := F.ex
      have ea : s.adr K = He.ga K s.at_.1 := by
        rw [FSp.adr_g z2]
        unfold FSp.glb at z1
        unfold He.fAd
        cases q : s.at_.2 with
        | none => rfl
        | some _ => rw [q] at z1; cases z1
      have els : s.hls = t.ls := by unfold FSp.hls; rw [hp]
      have hd0 := z5
      unfold FSp.hdOk at z5
      simp only [Bool.and_eq_true, decide_eq_true_eq, Bool.not_eq_true', nmOk] at z5
      obtain ⟨⟨⟨⟨⟨⟨⟨⟨⟨⟨⟨⟨⟨⟨⟨⟨⟨⟨⟨⟨⟨h1, h2⟩, h3⟩, h4⟩, h5⟩, h6⟩, h7⟩, h8⟩, h9⟩, h10⟩, h11⟩, h12⟩, h13⟩, h14⟩, h15⟩, h16⟩, h17⟩, h18⟩, h19⟩, h20⟩, h21⟩, h22⟩ := z5
      have eps : s.ps = [t.a] := by
        unfold FSp.ps
        rw [h2]
        cases q : s.N with
        | nil => rw [q] at h6; cases h6
        | cons x r =>
          rw [q] at h6
          have : x = t.a := by simpa using h6
          rw [this]; rfl
      have hsc := FSp.sc h1
      rw [eps] at hsc hB
      have hva : Vis (defScope s.st) t.a := (hsc.par t.a (by simp)).elim (fun z => .inl z) fun z => .inr (.inl z)
      rw [h3] at lk hcd hB
      refine ⟨t.a, s.adr K, defArgs s.st, defBody s.st, defScope s.st, .none, kV, doc, pm, cdv, ct, oc, an, od, osl, s.N, ?_⟩
      show mg s.at_.1 = some (.ref (s.adr K)) ∧ _
      refine ⟨by rw [ea]; exact PySem.W.mg_of X G (eqO_ok y.1), hk, ?_⟩
      show K.lookup (s.adr K) = some ⟨oc, od, .func (PySem.W.fnOf s.at_.1 s.at_.1 _ _ _ _ _ _ _ _ _ _), osl⟩ ∧ PySem.W.codeIn K cdv s.at_.1 = true ∧ L2.Binds K (PySem.W.fnOf s.at_.1 s.at_.1 _ _ _ _ _ _ _ _ _ _) [t.a] [] ∧ FnScope s.N [t.a] (defScope s.st) ∧ s.N[0]? = some t.a ∧ Vis (defScope s.st) t.a ∧ _ ∧ _ ∧ HdOk P w ((L.kx K).pin m) mg base (7 * k + 4) s.N s.at_.1 (defScope s.st) (s.adr K) cdv t.a (defBody s.st) (callN L.T k) s.f s.hls _
      rw [z4, els]
      exact ⟨lk, hcd, hB, hsc, h6, hva, h18.1, h18.2, hd⟩
  · have y := List.all_eq_true.mp xi p hp
    unfold isEB at y
    simp only [Bool.and_eq_true] at y
    refine ⟨_, PySem.W.mg_of X G (eqO_ok y.1), fun q hq => ?_⟩
    have z := List.all_eq_true.mp y.2 q hq
    simp only [Bool.and_eq_true, decide_eq_true_eq] at z
    exact ⟨exiB_ok z.1, z.2⟩
  · have y := List.all_eq_true.mp xb p hp
    unfold isBB at y
    have z := List.all_eq_true.mp y q hq
    simp only [Bool.and_eq_true, decide_eq_true_eq] at z
    exact ⟨exiB_ok z.1, z.2⟩
  · exact xm
theorem all_ok {hp : Heap} (htop : (P.main.scope.names.lookup ("super" : Str)).isSome = false) (hfile : P.main.file = L.file) (h : L.fitB = true) (hb : ∀ s ∈ L.all, BindA (defArgs s.st) s.ps) (c : SaysQ L K hp) (TB : ∀ s ∈ L.lms, LamX.TabB base mg (codeA K s) (tabA K s)) (X : K.In base) (G : base.Ns mainGlobals mg) : ∀ k, FnAll P w L K mg base k ∧ IniAll P w L K mg base k ∧ HdAll P w L K mg base k
  | 0 => ⟨fun s hs m fd F => ⟨fun _ => fn_zero (K := (L.kx K).pin m), fnG_of (fn_zero (K := (L.kx K).pin m))⟩, fun cs hc m fd F => init_zero (K := (L.kx K).pin m), fun s hs t hp m fd F => hd_zero⟩
  | k + 1 => by
    obtain ⟨fa, ia, ha⟩ := all_ok htop hfile h hb c TB X G k
    have g := gok_of (P := P) (w := w) htop hfile h hb c X G fa ia ha
    have hfit := h
    unfold LawD.fitB at h
    simp only [Bool.and_eq_true] at h
    obtain ⟨⟨⟨f0, f1⟩, f2⟩, f3⟩ := h
    refine ⟨fun s hs m fd F => ?_, fun cs hc m fd F => ?_, fun s hs t hp m fd F => ?_⟩
    · have z := List.all_eq_true.mp f1 s hs
      rw [Bool.and_eq_true] at z
      exact ⟨fun hg => fnOk_of (K := (L.kx K).pin m) (G := L.G) F z.1 (L.T_fs hfit hs) hg (g m) (lamS_of c TB hs F m), fnG_of2 (K := (L.kx K).pin m) (G := L.G) F z.1 (L.T_fs hfit hs) (g m) (lamS_of c TB hs F m)⟩
    · have fit := CSp.fit_of (List.all_eq_true.mp f2 cs hc)
      have hx := c.ex
      unfold LawD.factB at hx
      simp only [Bool.and_eq_true] at hx
      have z := List.all_eq_true.mp hx.1.1.2 cs hc
      unfold CSp.factB at z
      simp only [Bool.and_eq_true] at z
      obtain ⟨⟨⟨⟨⟨⟨⟨⟨⟨⟨⟨⟨z1, z2⟩, z3⟩, z4⟩, z5⟩, z6⟩, z7⟩, z8⟩, z9⟩, z9b⟩, z10⟩, zn⟩, zl⟩ := z
      have eC : ((L.kx K).pin m).cl cs.E.cn = He.ga K cs.E.name := by
        show He.ga K (L.cn.getD cs.E.cn "") = _
        rw [fit.cn]
      have q := fnI_of (K := (L.kx K).pin m) (G := L.G) (P := P) (w := w) (mg := mg) (base := base) F fit.okI (L.T_cs hfit hc) fit.g fit.lm eC (iscB_ok z3).sc (slotB_ok (List.all_eq_true.mp z4 _ fit.f1)) (slotB_ok (List.all_eq_true.mp z4 _ fit.f2)) (fun m' => g m')
      rw [fit.f, fit.np] at q
      exact q
    · unfold LawD.fitX at f0
      simp only [Bool.and_eq_true] at f0
      have z := List.all_eq_true.mp f0.1.2 s hs
      unfold hdFit at z
      rw [hp] at z
      simp only [Bool.and_eq_true, Bool.not_eq_true', decide_eq_true_eq] at z
      have hx := c.ex
      unfold LawD.factB LawD.factX at hx
      simp only [Bool.and_eq_true] at hx
      have y := List.all_eq_true.mp hx.1.1.1.1.1.1.1.1.1.2 s hs
      unfold hdFact at y
      rw [hp] at y
      simp only [Bool.and_eq_true] at y
      have hT := L.T_hs hfit hs
      have er : s.hrest = t.rest := by unfold FSp.hrest; rw [hp]
      rw [er] at hT
      refine hd_text (K := (L.kx K).pin m) (G := L.G) (P := P) (w := w) (base := base) (fd := fd) (C1 := He.ga K t.x1) (C2 := He.ga K t.x2) hp z.2 hT (g m) (fun zz => by rw [z.1.1.2] at zz; cases zz) rfl (PySem.W.mg_of X G (eqO_ok y.2.1.1)) (PySem.W.mg_of X G (eqO_ok y.2.1.2)) fun cc hcc => ?_
      obtain ⟨E, hE, rfl⟩ := exB_mem hcc
      obtain ⟨e, he, rfl⟩ := List.mem_map.mp hE
      have z3 := List.all_eq_true.mp f0.1.1 e he
      simp only [Bool.and_eq_true, decide_eq_true_eq] at z3
      have q := List.all_eq_true.mp y.2.2 e he
      simp only [decide_eq_true_eq] at q
      show PySem.W.exmAny K (.ref (He.ga K (L.cn.getD e.E.cn ""))) _ = _
      rw [z3.2]
      exact q
end
theorem walk_Q {l : PySem.W.OpenLaw} {L : LawD} {n k : Nat} {q : Program} {loose : List Str} {XP : (Str → Option Value) → Heap → Prop} {d : DefRec} {x : Str} {s : FSp}
    (htop : (l.prog.main.scope.names.lookup ("super" : Str)).isSome = false) (hfile : l.prog.main.file = L.file) (hn : l.most = some n) (hn2 : n ≤ sizeLine) (hdf : d.params.defaults = []) (hr : Room (7 * k) callerA) (h : L.fitB = true) (hb : ∀ s ∈ L.all, BindA (defArgs s.st) s.ps) (hs : s ∈ L.fs) (hat : s.at_ = (d.name, none)) (hps : s.ps = [x]) (hnp : s.np = 1) (hpr : s.pr = false)
    (hrun : ∀ ns : List Int, ns.length ≤ n → (∀ z ∈ ns, Builtin.Int.intBits z ≤ 1048576) → ∃ S', callN L.T k s.f [.scr ns] [] = .ok (.bl true) S') {nn : Nat} :
    PySem.W.WalkO q loose XP (L.hook nn).says l.row.toRowW d [] (fun f vs => PySem.call f vs) := by
  refine Att.attach_callB hn hdf fun w s₀ s₁ mg mb fa o pm cd doc a vs ns G Y ho hd hcd hmg hobj hints hlen hbits hg => ?_
  obtain ⟨K, KX, c⟩ := Y
  obtain ⟨fd, F⟩ := c.fn s (List.mem_append_left _ hs)
  have hx := c.ex
  unfold LawD.factB at hx
  simp only [Bool.and_eq_true] at hx
  have y := List.all_eq_true.mp hx.1.1.1.1.2 s hs
  have hgl : s.glb = true := by unfold FSp.glb; rw [hat]
  rw [hgl, Bool.not_true, Bool.false_or, hat] at y
  have e := hmg.symm.trans (PySem.W.mg_of KX G.T.g (eqO_ok y))
  have ea : s.adr K = He.ga K d.name := by
    rw [FSp.adr_g hpr, hat]; rfl
  have efa : fa = s.adr K := by rw [ea]; cases e; rfl
  subst efa
  have hbA := hb s (List.mem_append_left _ hs)
  rw [hps] at hbA
  have hbind : ∀ (s' : Shared) (u : Value), BindsTo s' fd ⟨[u], []⟩ [(x, u)] := fun s' u => by
    obtain ⟨oc, od, kV, doc, pm, an, cdv, ct, osl, rfl, lk, hcd⟩ := F.ex
    exact .of_eq (hbA _ _ _ _ _ _ _ _ _ _ [u] rfl)
  refine law_runG (cs := L.lms.map fun s => (codeA K s, tabA K s)) KX G.T.g G.T.b G.T.builtins G.T.nolimit hg (fun p hp => by
    obtain ⟨s', hs', rfl⟩ := List.mem_map.mp hp
    exact c.empty s' hs') (fun p hp => by
    obtain ⟨s', hs', rfl⟩ := List.mem_map.mp hp
    exact c.out s' hs') (fun p hp => by
    obtain ⟨s', hs', rfl⟩ := List.mem_map.mp hp
    exact PySem.W.codeHd_of_K KX (List.all_eq_true.mp hx.2 s' hs')) G.T.bmain hobj hints (Nat.le_trans hlen hn2) hr (fun base hB hN hTB => (by
    have q := ((all_ok (P := l.prog) (w := w) (mg := mg) (base := base) htop hfile h hb c (fun s' hs' => hTB (codeA K s', tabA K s') (List.mem_map_of_mem (f := fun s => (codeA K s, tabA K s)) hs')) hB hN k).1 s hs none fd F).2
    rw [hps] at q
    exact q)) hbind (fun H hH hS => ?_) fun H e s' z => ?_
  · obtain ⟨S', e⟩ := hrun ns hlen hbits
    have nf : ∀ b, ¬ FF nolin (fun _ => False) (fun _ => 0) ([] : Sto).length [] [] b := fun b z => by
      rcases z with z | ⟨n, hn, _⟩ | ⟨i, z⟩
      · exact z
      · exact absurd hn (Nat.not_lt_zero _)
      · exact noLin z
    refine ⟨fun _ => False, fun _ => 0, [], [.scr ns], ⟨rfl, fun n m hn => absurd hn (Nat.not_lt_zero _), fun i a n h => (noLin h).elim, fun i i' a h => (noLin h).elim, fun n hn => absurd hn (Nat.not_lt_zero _), fun i a h => (noLin h).elim, fun b z => (nf b z).elim, fun i d h => by simp at h, fun n c e => by simp at e,
      fun a o _ h _ => h, fun n _ h2 => absurd h2 (Nat.not_lt_zero _), fun i a h => (noLin h).elim, Nat.le_refl _, fun n _ => rfl, fun a o h => ⟨o, h⟩, fun p hp => by
        have hp : p ∈ L.lms.map fun s => (tabA K s, s.lamq) := hp
        obtain ⟨s', hs', rfl⟩ := List.mem_map.mp hp
        exact LamX.TabS.nil (hH (codeA K s', tabA K s') (List.mem_map_of_mem (f := fun s => (codeA K s, tabA K s)) hs'))⟩, ?_, by rw [hnp]; rfl, ?_⟩
    · refine .cons ?_ .nil
      have hl := Nat.le_trans hlen hn2
      rcases hS with hS | hS
      · exact .scr hS (nf a) hl
      · exact .scrK (.inr hS) hl
    · rw [e]
      exact fun j' v H' R' rd => rd.of_bl
  · obtain ⟨_, _, _, _, _, _, _, _, _, _, _, _, _, _, _, _, zz⟩ := z
end Qi
namespace Qi
open PySem PySem.Spec L2 PyProof.Rows
def c_law_mixed (G : Gx) : Co :=
  (cSeq (cSet 2 (x2 oAdd (x2 oAdd (x2 oMod (x1 oInt (x2 oMul (x2 oMul (xV 0) (x2 oAdd (xC (.int 1)) (x2 oMul (xC (.int 2)) (xV 1)))) (xC (.int 48271)))) (xC (.int 2147483647))) (x2 oMul (x2 oMul (xC (.int 7919)) (xV 1)) (xV 1))) (x2 oMul (xC (.int 104729)) (xV 1))))
  (cRet (x2 oFdiv (x2 oMod (x1 oInt (x2 oMul (xV 2) (xC (.int 69621)))) (xC (.int 2147483629))) (xC (.int 7)))))
def d_law_mixed (L : LawD) : FDef := ⟨2, 3, fun cf => c_law_mixed (L.G cf)⟩
def c_law_folded_b1 (G : Gx) : Co :=
  (cSetI 1 (x2 oMod (x1 oInt (xV 2)) (xC (.int 64))) (x2 oMod (x1 oInt (x2 oAdd (x2 oMul (alt (x2 oIx (xVB 1) (x2 oMod (x1 oInt (xV 2)) (xC (.int 64)))) (xGet (xVF 1) (x2 oMod (x1 oInt (xV 2)) (xC (.int 64))))) (xC (.int 48271))) (xV 3))) (xC (.int 2147483647))))
def c_law_folded_b2 (G : Gx) : Co :=
  (cSetI 1 (xV 2) (x2 oMod (x1 oInt (x2 oAdd (alt (x2 oIx (xVB 1) (xV 2)) (xGet (xVF 1) (xV 2))) (x2 oMul (alt (x2 oIx (xVB 1) (x2 oSub (xV 2) (xC (.int 1)))) (xGet (xVF 1) (x2 oSub (xV 2) (xC (.int 1))))) (xC (.int 16807))))) (xC (.int 2147483647))))
def c_law_folded (G : Gx) : Co :=
  (cSeq (cSetL 1 (xLc (mRg1 (xC (.int 64))) (.nm 2) tT (x2 oAdd (xC (.int 17)) (xV 2)) [2]))
  (cSeq (cFor (mEnum (xV 0)) (.tp [2, 3]) (c_law_folded_b1 G))
  (cSeq (cFor (mRg2 (xC (.int 1)) (xC (.int 64))) (.nm 2) (c_law_folded_b2 G))
  (alt (cRet (xVL 1)) (cRet (xVF 1))))))
def d_law_folded (L : LawD) : FDef := ⟨1, 4, fun cf => c_law_folded (L.G cf)⟩
def c_law_draw (G : Gx) : Co :=
  (cSeq (cSet 2 (alt (x2 oIx (xV 0) (xC (.str "spot"))) (xGet (xV 0) (xC (.str "spot")))))
  (cSeq (alt (cPutD (xV 0) (xC (.str "spot")) (x2 oAdd (xV 2) (xC (.int 1)))) (cSetR (xV 0) (xC (.str "spot")) (x2 oAdd (xV 2) (xC (.int 1)))))
  (cSeq (cIf (tE (cCmpX G .NotEq (alt (x2 oIx (xV 0) (xC (.str "great"))) (xGet (xV 0) (xC (.str "great")))) (xL oLstS aN)))
    (cSeq (cSet 3 (alt (x2 oIx (xV 0) (xC (.str "great"))) (xGet (xV 0) (xC (.str "great")))))
    (cSeq (cSet 4 (x2 oMod (x1 oInt (xV 2)) (cLen G (xV 3))))
    (cSeq (cSet 5 (alt (x2 oIx (xV 3) (xV 4)) (xGet (xV 3) (xV 4))))
    (cIf (tE (x2 oGt (xV 5) (xC (.int 0))))
      (cSeq (alt (cPutD (xV 3) (xV 4) (x2 oFdiv (xV 5) (xV 1))) (cSetR (xV 3) (xV 4) (x2 oFdiv (xV 5) (xV 1))))
      (cRet (x2 oMod (x1 oInt (xV 5)) (xV 1))))
      cNil))))
    cNil)
  (cSeq (cSet 3 (alt (x2 oIx (xV 0) (xC (.str "cells"))) (xGet (xV 0) (xC (.str "cells")))))
  (cRet (x2 oMod (x1 oInt (xCall G.cf 19 2 (aC (xCall G.cf 19 2 (aC (x2 oAdd (alt (x2 oIx (xV 3) (x2 oMod (x1 oInt (xV 2)) (xC (.int 64)))) (xGet (xV 3) (x2 oMod (x1 oInt (xV 2)) (xC (.int 64))))) (x2 oMul (xC (.int 31)) (x2 oFdiv (xV 2) (xC (.int 64))))) (aC (xV 2) aN))) (aC (x2 oAdd (xV 2) (xC (.int 7))) aN)))) (xV 1)))))))
def d_law_draw (L : LawD) : FDef := ⟨2, 6, fun cf => c_law_draw (L.G cf)⟩
def c_law_begun (G : Gx) : Co :=
  (cSeq (cSet 1 (xDisp [(.inr "cells", (xCall G.cf 20 1 (aC (xV 0) aN))), (.inr "great", (xBox (xL oLstS aN))), (.inr "spot", (xC (.int 0)))]))
  (cSeq (alt (cPutD (xV 1) (xC (.str "great")) (xBox (xLc (mIt (xV 0)) (.nm 2) tT (xI (tE (x2 oGe (xV 2) (x2 oPow (xC (.int 10)) (xC (.int 18))))) (xV 2) (xC (.int 0))) [2]))) (cSetR (xV 1) (xC (.str "great")) (xBox (xLc (mIt (xV 0)) (.nm 2) tT (xI (tE (x2 oGe (xV 2) (x2 oPow (xC (.int 10)) (xC (.int 18))))) (xV 2) (xC (.int 0))) [2]))))
  (cRet (xV 1))))
def d_law_begun (L : LawD) : FDef := ⟨1, 3, fun cf => c_law_begun (L.G cf)⟩
def c_law_v31_b1 (G : Gx) : Co :=
  (cSeq (cSet 9 (xI (tE (x2 oLt (xV 5) (xC (.int 10)))) (xL oTupS (aC (alt (x2 oIx (xV 4) (xV 5)) (xGet (xV 4) (xV 5))) (aC (xV 2) aN))) (xL oTupS (aC (alt (x2 oIx (xV 4) (xV 5)) (xGet (xV 4) (xV 5))) aN))))
  (cSeq (cIf (tE (cCmpX G .NotEq (x1 oRepr (xCall G.cf 146 1 (aC (alt (x2 oIx (xV 3) (xV 5)) (xGet (xV 3) (xV 5))) aN))) (x1 oRepr (xV 9))))
    (cRet (xC (.bl false)))
    cNil)
  (cSeq (cIf (tO (tE (cCmpX G .NotEq (xIsE (tabF [(21, true), (22, true), (23, true), (24, true), (25, true), (26, true), (27, true), (28, true), (29, true), (30, true), (31, true), (32, false)]) (alt (x2 oIx (xV 3) (xV 5)) (xGet (xV 3) (xV 5)))) (alt (cCmpX G .NotEq (xV 5) (xC (.int 9))) (cEqZ G .NotEq (xV 5) (xC (.int 9)))))) (tE (cCmpX G .NotEq (xIsE (tabF [(21, true), (22, true), (23, true), (24, true), (25, true), (26, true), (27, true), (28, true), (29, true), (30, true), (31, true), (32, false)]) (alt (x2 oIx (xV 3) (xV 5)) (xGet (xV 3) (xV 5)))) (alt (cCmpX G .NotEq (xV 5) (xC (.int 9))) (cEqZ G .NotEq (xV 5) (xC (.int 9)))))))
    (cRet (xC (.bl false)))
    cNil)
  (cIf (tE (cCmpX G .NotEq (xIsE (tabF [(21, false), (22, false), (23, false), (24, false), (25, false), (26, false), (27, false), (28, false), (29, false), (30, false), (31, false), (32, true)]) (alt (x2 oIx (xV 3) (xV 5)) (xGet (xV 3) (xV 5)))) (alt (cCmpX G .Eq (xV 5) (xC (.int 9))) (cEqZ G .Eq (xV 5) (xC (.int 9))))))
    (cRet (xC (.bl false)))
    cNil))))
def c_law_v31 (G : Gx) : Co :=
  (cSeq (cSet 1 (xCall G.cf 22 1 (aC (xV 0) aN)))
  (cSeq (cSet 2 (alt (x2 oIx (xL oLstS (aC (xC .non) (aC (xC (.int 0)) (aC (xC (.int 7)) (aC (xL oTupS (aC (xC (.int 1)) (aC (xC (.int 2)) aN))) (aC (xC (.str "x")) (aC (xL oLstS (aC (xC (.int 3)) aN)) (aC xEmp (aC (x2 oPow (xC (.int 10)) (xC (.int 40))) aN))))))))) (xCall G.cf 21 2 (aC (xV 1) (aC (xC (.int 8)) aN)))) (xGet (xL oLstS (aC (xC .non) (aC (xC (.int 0)) (aC (xC (.int 7)) (aC (xL oTupS (aC (xC (.int 1)) (aC (xC (.int 2)) aN))) (aC (xC (.str "x")) (aC (xL oLstS (aC (xC (.int 3)) aN)) (aC xEmp (aC (x2 oPow (xC (.int 10)) (xC (.int 40))) aN))))))))) (xCall G.cf 21 2 (aC (xV 1) (aC (xC (.int 8)) aN))))))
  (cSeq (cSet 3 (xL oLstS (aC (xExc1 21 (xV 2)) (aC (xExc1 24 (xV 2)) (aC (xExc1 28 (xV 2)) (aC (xExc1 30 (xV 2)) (aC (xExc1 22 (xV 2)) (aC (xExc1 23 (xV 2)) (aC (xExc1 29 (xV 2)) (aC (xExc1 25 (xV 2)) aN))))))))))
  (cSeq (cSet 3 (x2 oAdd (xV 3) (xL oLstS (aC (xExc1 27 (xV 2)) (aC (xExc1 32 (xV 2)) (aC (xExc0 26) (aC (xExc0 31) aN)))))))
  (cSeq (cSet 4 (xL oLstS (aC (xC (.str "BadPairs")) (aC (xC (.str "BadExchange")) (aC (xC (.str "BadRun")) (aC (xC (.str "BadText")) (aC (xC (.str "BadTerm")) (aC (xC (.str "BadNumber")) (aC (xC (.str "BadRuns")) (aC (xC (.str "NoTerm")) (aC (xC (.str "Lacks")) aN)))))))))))
  (cSeq (cSet 4 (x2 oAdd (xV 4) (xL oLstS (aC (xC (.str "TooGreat")) (aC (xC (.str "OtherTasks")) (aC (xC (.str "NothingLeft")) aN))))))
  (cSeq (cFor (mRg1 (xC (.int 12))) (.nm 5) (c_law_v31_b1 G))
  (cSeq (cSet 6 (xL oLstS (aC (xFldE G.exB "place" (xExc1 28 (xV 2))) (aC (xFldE G.exB "place" (xExc1 30 (xV 2))) (aC (xFldE G.exB "value" (xExc1 29 (xV 2))) aN)))))
  (cSeq (cIf (tE (cCmpX G .NotEq (x1 oRepr (xV 6)) (x1 oRepr (x2 oMul (xL oLstS (aC (xV 2) aN)) (xC (.int 3))))))
    (cRet (xC (.bl false)))
    cNil)
  (cSeq (cSet 7 (xMake G.cf 15 2 (aC (xC (.int 2)) (aC (xL oLstS (aC (xL oTupS (aC (xC (.int 0)) (aC (xC (.int 1)) aN))) aN)) aN))))
  (cSeq (cSet 8 (alt (x2 oIx (xL oLstS (aC (xC .non) (aC (xL oTupS (aC (xL oTupS (aC (xC (.int 0)) (aC (xC (.int 1)) aN))) aN)) (aC (xL oLstS (aC (xL oTupS (aC (xC (.int 0)) (aC (xC (.int 1)) aN))) aN)) (aC (xC (.int 5)) (aC (xC (.str "order")) (aC xEmp (aC (xV 2) aN)))))))) (xCall G.cf 21 2 (aC (xV 1) (aC (xC (.int 7)) aN)))) (xGet (xL oLstS (aC (xC .non) (aC (xL oTupS (aC (xL oTupS (aC (xC (.int 0)) (aC (xC (.int 1)) aN))) aN)) (aC (xL oLstS (aC (xL oTupS (aC (xC (.int 0)) (aC (xC (.int 1)) aN))) aN)) (aC (xC (.int 5)) (aC (xC (.str "order")) (aC xEmp (aC (xV 2) aN)))))))) (xCall G.cf 21 2 (aC (xV 1) (aC (xC (.int 7)) aN))))))
  (cSeq (cSet 6 (xL oLstS (aC (alt (cCmpX G .Eq (xV 7) (xV 8)) (cEqZ G .Eq (xV 7) (xV 8))) (aC (alt (cCmpX G .Eq (xV 8) (xV 7)) (cEqZ G .Eq (xV 8) (xV 7))) (aC (alt (cCmpX G .NotEq (xV 7) (xMake G.cf 15 2 (aC (xC (.int 2)) (aC (xL oTupS (aC (xL oTupS (aC (xC (.int 0)) (aC (xC (.int 1)) aN))) aN)) aN)))) (cEqZ G .NotEq (xV 7) (xMake G.cf 15 2 (aC (xC (.int 2)) (aC (xL oTupS (aC (xL oTupS (aC (xC (.int 0)) (aC (xC (.int 1)) aN))) aN)) aN))))) (aC (alt (cCmpX G .NotEq (xV 7) (xV 8)) (cEqZ G .NotEq (xV 7) (xV 8))) aN))))))
  (cRet (alt (cCmpX G .Eq (x1 oRepr (xV 6)) (x1 oRepr (xL oLstS (aC (xC (.bl false)) (aC (xC (.bl false)) (aC (xC (.bl false)) (aC (xC (.bl true)) aN))))))) (cEqZ G .Eq (x1 oRepr (xV 6)) (x1 oRepr (xL oLstS (aC (xC (.bl false)) (aC (xC (.bl false)) (aC (xC (.bl false)) (aC (xC (.bl true)) aN)))))))))))))))))))))
def d_law_v31 (L : LawD) : FDef := ⟨1, 10, fun cf => c_law_v31 (L.G cf)⟩
end Qi
namespace Qi
open PySem PySem.Spec L2 PyProof.Rows
namespace Dk78
def topS (i : Nat) : Stmt := PySem.Challenge.pw_behindbeside_k78_exceptions_of_both_part.main.body.getD i (.Pass ⟨0, 0, 0, 0⟩)
def clsB : Stmt → List Stmt
  | .ClassDef _ _ _ b _ _ _ _ _ _ _ => b
  | _ => []
def subS (i j : Nat) : Stmt := (clsB (topS i)).getD j (.Pass ⟨0, 0, 0, 0⟩)
def s_is_whole : FSp := ⟨("is_whole", none), "is_whole", "is_whole", topS 17, 10, 1, ["value"], [], [], [], false, false, false, false⟩
def s_is_among : FSp := ⟨("is_among", none), "is_among", "is_among", topS 18, 11, 3, ["value", "least", "most"], [], [], [], false, false, false, false⟩
def s_is_list : FSp := ⟨("is_list", none), "is_list", "is_list", topS 19, 12, 1, ["value"], [], [], [], false, false, false, false⟩
def s_is_pair : FSp := ⟨("is_pair", none), "is_pair", "is_pair", topS 20, 13, 2, ["value", "many", "task"], [], [], [], false, false, false, false⟩
def s_with_pair : FSp := ⟨("with_pair", none), "with_pair", "with_pair", topS 21, 14, 2, ["before", "pair", "one", "other", "task", "ahead", "own"], [], [], [], false, false, false, false⟩
def s_Order_init : FSp := ⟨("Order", some "__init__"), "__init__", "Order.__init__", subS 22 1, 15, 3, ["self", "many", "pairs", "before", "place", "pair", "task", "ahead"], [0], [(90, 18)], [], false, false, false, false⟩
def s_Order_len : FSp := ⟨("Order", some "__len__"), "__len__", "Order.__len__", subS 22 2, 16, 1, ["self"], [], [], [], false, false, false, false⟩
def s_Order_eq : FSp := ⟨("Order", some "__eq__"), "__eq__", "Order.__eq__", subS 22 3, 17, 2, ["self", "other"], [], [], [], false, false, false, false⟩
def s_Order_pairs : FSp := ⟨("Order", some "pairs"), "pairs", "Order.pairs", subS 22 4, 18, 1, ["self", "task", "ahead", "one"], [], [], [], false, true, false, false⟩
def s_Order_is_ahead : FSp := ⟨("Order", some "is_ahead"), "is_ahead", "Order.is_ahead", subS 22 5, 31, 3, ["self", "one", "other"], [], [], [], false, false, false, false⟩
def s_law_mixed : FSp := ⟨("_law_mixed", none), "_law_mixed", "_law_mixed", topS 24, 19, 2, ["cell", "n", "blend"], [], [], [], false, false, false, false⟩
def s_law_folded : FSp := ⟨("_law_folded", none), "_law_folded", "_law_folded", topS 25, 20, 1, ["script", "found", "n", "cell"], [1], [], [], false, false, false, false⟩
def s_law_draw : FSp := ⟨("_law_draw", none), "_law_draw", "_law_draw", topS 26, 21, 2, ["m", "limit", "n", "lot", "here", "cell"], [], [], [], false, false, false, false⟩
def s_law_begun : FSp := ⟨("_law_begun", none), "_law_begun", "_law_begun", topS 27, 22, 1, ["script", "m", "cell"], [], [(135, 17), (134, 48)], [], false, false, false, false⟩
def s_law_class : FSp := ⟨("_law_class", none), "_law_class", "_law_class", topS 28, 146, 1, ["error", "rows", "words", "word", "holds"], [], [], [], false, false, false, false⟩
def s_law_v31 : FSp := ⟨("law", none), "law", "law", topS 29, 250, 1, ["script", "m", "q", "some", "words", "n", "told", "own", "odd", "due"], [], [], [], true, false, false, true⟩
def fs : List FSp := [s_is_whole, s_is_among, s_is_list, s_is_pair, s_with_pair, s_Order_len, s_Order_eq, s_Order_pairs, s_Order_is_ahead, s_law_mixed, s_law_folded, s_law_draw, s_law_begun, s_law_class, s_law_v31]
def csp : List CSp := [⟨⟨"Order", 1, [("many", 1), ("before", 0)], [("pairs", 18)], 15, 2, 16, 17, []⟩, s_Order_init, "many", "before"⟩]
def esp : List ESp := [⟨⟨"BadPairs", 21, false⟩, subS 3 0⟩, ⟨⟨"BadTerm", 22, false⟩, subS 4 0⟩, ⟨⟨"BadNumber", 23, false⟩, subS 5 0⟩, ⟨⟨"BadExchange", 24, false⟩, subS 6 0⟩, ⟨⟨"NoTerm", 25, false⟩, subS 7 0⟩, ⟨⟨"OtherTasks", 26, false⟩, subS 8 0⟩, ⟨⟨"Lacks", 27, false⟩, subS 9 0⟩, ⟨⟨"BadRun", 28, false⟩, subS 10 0⟩, ⟨⟨"BadRuns", 29, false⟩, subS 11 0⟩, ⟨⟨"BadText", 30, false⟩, subS 12 0⟩, ⟨⟨"NothingLeft", 31, false⟩, subS 13 0⟩, ⟨⟨"TooGreat", 32, true⟩, subS 14 0⟩]
def hsp : List FSp := []
def L : LawD := ⟨["TaskError", "BadPairs", "BadTerm", "BadNumber", "BadExchange", "NoTerm", "OtherTasks", "Lacks", "BadRun", "BadRuns", "BadText", "NothingLeft", "TooGreat", "is_whole", "is_among", "is_list", "is_pair", "with_pair", "Order", "_law_mixed", "_law_folded", "_law_draw", "_law_begun", "_law_class", "law"], fs, [("MOST_TASKS", (.int 12))], ((["", "Order", "", "", "", "", "", "", "", "", "", "", "", "", "", "", "", "", "", "", "", "BadPairs", "BadTerm", "BadNumber", "BadExchange", "NoTerm", "OtherTasks", "Lacks", "BadRun", "BadRuns"] : List PySem.Str) ++ (["BadText", "NothingLeft", "TooGreat"] : List PySem.Str)), csp, esp, hsp, [("TaskError", [(21, true), (22, true), (23, true), (24, true), (25, true), (26, true), (27, true), (28, true), (29, true), (30, true), (31, true), (32, false)]), ("BadPairs", [(21, true), (22, false), (23, false), (24, false), (25, false), (26, false), (27, false), (28, false), (29, false), (30, false), (31, false), (32, false)]), ("BadTerm", [(21, false), (22, true), (23, false), (24, false), (25, false), (26, false), (27, false), (28, false), (29, false), (30, false), (31, false), (32, false)]), ("BadNumber", [(21, false), (22, false), (23, true), (24, false), (25, false), (26, false), (27, false), (28, false), (29, false), (30, false), (31, false), (32, false)]), ("BadExchange", [(21, false), (22, false), (23, false), (24, true), (25, false), (26, false), (27, false), (28, false), (29, false), (30, false), (31, false), (32, false)]), ("NoTerm", [(21, false), (22, false), (23, false), (24, false), (25, true), (26, false), (27, false), (28, false), (29, false), (30, false), (31, false), (32, false)]), ("OtherTasks", [(21, false), (22, false), (23, false), (24, false), (25, false), (26, true), (27, false), (28, false), (29, false), (30, false), (31, false), (32, false)]), ("Lacks", [(21, false), (22, false), (23, false), (24, false), (25, false), (26, false), (27, true), (28, false), (29, false), (30, false), (31, false), (32, false)]), ("BadRun", [(21, false), (22, false), (23, false), (24, false), (25, false), (26, false), (27, false), (28, true), (29, false), (30, false), (31, false), (32, false)]), ("BadRuns", [(21, false), (22, false), (23, false), (24, false), (25, false), (26, false), (27, false), (28, false), (29, true), (30, false), (31, false), (32, false)]), ("BadText", [(21, false), (22, false), (23, false), (24, false), (25, false), (26, false), (27, false), (28, false), (29, false), (30, true), (31, false), (32, false)]), ("NothingLeft", [(21, false), (22, false), (23, false), (24, false), (25, false), (26, false), (27, false), (28, false), (29, false), (30, false), (31, true), (32, false)]), ("TooGreat", [(21, false), (22, false), (23, false), (24, false), (25, false), (26, false), (27, false), (28, false), (29, false), (30, false), (31, false), (32, true)])], [("ValueError", [(21, true), (22, true), (23, true), (24, true), (25, true), (26, true), (27, true), (28, true), (29, true), (30, true), (31, true), (32, false)]), ("OverflowError", [(21, false), (22, false), (23, false), (24, false), (25, false), (26, false), (27, false), (28, false), (29, false), (30, false), (31, false), (32, true)])], PySem.Challenge.pw_behindbeside_k78_exceptions_of_both_part.main.file⟩
theorem b_is_whole : BindA (defArgs s_is_whole.st) s_is_whole.ps := fun _ _ _ _ _ _ _ _ _ _ us hl => match us, hl with | [_], _ => rfl
theorem b_is_among : BindA (defArgs s_is_among.st) s_is_among.ps := fun _ _ _ _ _ _ _ _ _ _ us hl => match us, hl with | [_, _, _], _ => rfl
theorem b_is_list : BindA (defArgs s_is_list.st) s_is_list.ps := fun _ _ _ _ _ _ _ _ _ _ us hl => match us, hl with | [_], _ => rfl
theorem b_is_pair : BindA (defArgs s_is_pair.st) s_is_pair.ps := fun _ _ _ _ _ _ _ _ _ _ us hl => match us, hl with | [_, _], _ => rfl
theorem b_with_pair : BindA (defArgs s_with_pair.st) s_with_pair.ps := fun _ _ _ _ _ _ _ _ _ _ us hl => match us, hl with | [_, _], _ => rfl
theorem b_Order_init : BindA (defArgs s_Order_init.st) s_Order_init.ps := fun _ _ _ _ _ _ _ _ _ _ us hl => match us, hl with | [_, _, _], _ => rfl
theorem b_Order_len : BindA (defArgs s_Order_len.st) s_Order_len.ps := fun _ _ _ _ _ _ _ _ _ _ us hl => match us, hl with | [_], _ => rfl
theorem b_Order_eq : BindA (defArgs s_Order_eq.st) s_Order_eq.ps := fun _ _ _ _ _ _ _ _ _ _ us hl => match us, hl with | [_, _], _ => rfl
theorem b_Order_pairs : BindA (defArgs s_Order_pairs.st) s_Order_pairs.ps := fun _ _ _ _ _ _ _ _ _ _ us hl => match us, hl with | [_], _ => rfl
theorem b_Order_is_ahead : BindA (defArgs s_Order_is_ahead.st) s_Order_is_ahead.ps := fun _ _ _ _ _ _ _ _ _ _ us hl => match us, hl with | [_, _, _], _ => rfl
theorem b_law_mixed : BindA (defArgs s_law_mixed.st) s_law_mixed.ps := fun _ _ _ _ _ _ _ _ _ _ us hl => match us, hl with | [_, _], _ => rfl
theorem b_law_folded : BindA (defArgs s_law_folded.st) s_law_folded.ps := fun _ _ _ _ _ _ _ _ _ _ us hl => match us, hl with | [_], _ => rfl
theorem b_law_draw : BindA (defArgs s_law_draw.st) s_law_draw.ps := fun _ _ _ _ _ _ _ _ _ _ us hl => match us, hl with | [_, _], _ => rfl
theorem b_law_begun : BindA (defArgs s_law_begun.st) s_law_begun.ps := fun _ _ _ _ _ _ _ _ _ _ us hl => match us, hl with | [_], _ => rfl
theorem b_law_class : BindA (defArgs s_law_class.st) s_law_class.ps := fun _ _ _ _ _ _ _ _ _ _ us hl => match us, hl with | [_], _ => rfl
theorem b_law_v31 : BindA (defArgs s_law_v31.st) s_law_v31.ps := fun _ _ _ _ _ _ _ _ _ _ us hl => match us, hl with | [_], _ => rfl
theorem binds : ∀ s ∈ L.all, BindA (defArgs s.st) s.ps := by
  intro s hs
  simp only [LawD.all, L, fs, csp, hsp, List.map_cons, List.map_nil, List.cons_append, List.nil_append, List.mem_cons, List.mem_nil_iff, or_false] at hs
  rcases hs with rfl | rfl | rfl | rfl | rfl | rfl | rfl | rfl | rfl | rfl | rfl | rfl | rfl | rfl | rfl | rfl
  · exact b_is_whole
  · exact b_is_among
  · exact b_is_list
  · exact b_is_pair
  · exact b_with_pair
  · exact b_Order_len
  · exact b_Order_eq
  · exact b_Order_pairs
  · exact b_Order_is_ahead
  · exact b_law_mixed
  · exact b_law_folded
  · exact b_law_draw
  · exact b_law_begun
  · exact b_law_class
  · exact b_law_v31
  · exact b_Order_init
theorem fit : L.fitB = true := by decide +kernel
theorem k_law_mixed (cf : Cf) : s_law_mixed.code L.G cf = c_law_mixed (L.G cf) := by kernel_rfl
theorem k_law_folded (cf : Cf) : s_law_folded.code L.G cf = c_law_folded (L.G cf) := by kernel_rfl
theorem k_law_draw (cf : Cf) : s_law_draw.code L.G cf = c_law_draw (L.G cf) := by kernel_rfl
theorem k_law_begun (cf : Cf) : s_law_begun.code L.G cf = c_law_begun (L.G cf) := by kernel_rfl
theorem k_law_v31 (cf : Cf) : s_law_v31.code L.G cf = c_law_v31 (L.G cf) := by kernel_rfl
theorem t_law_mixed : L.T 19 = some (d_law_mixed L) := (L.T_fs fit (s := s_law_mixed) (by unfold L fs; simp)).trans (congrArg some (congrArg (FDef.mk 2 3) (funext k_law_mixed)))
theorem t_law_folded : L.T 20 = some (d_law_folded L) := (L.T_fs fit (s := s_law_folded) (by unfold L fs; simp)).trans (congrArg some (congrArg (FDef.mk 1 4) (funext k_law_folded)))
theorem t_law_draw : L.T 21 = some (d_law_draw L) := (L.T_fs fit (s := s_law_draw) (by unfold L fs; simp)).trans (congrArg some (congrArg (FDef.mk 2 6) (funext k_law_draw)))
theorem t_law_begun : L.T 22 = some (d_law_begun L) := (L.T_fs fit (s := s_law_begun) (by unfold L fs; simp)).trans (congrArg some (congrArg (FDef.mk 1 3) (funext k_law_begun)))
theorem t_law_v31 : L.T 250 = some (d_law_v31 L) := (L.T_fs fit (s := s_law_v31) (by unfold L fs; simp)).trans (congrArg some (congrArg (FDef.mk 1 10) (funext k_law_v31)))
end Dk78
end Qi
namespace Qi
open PySem PySem.Spec L2 PyProof.Rows
namespace Dk78
def loose : List PySem.Str := (["_wall", "TaskError", "BadPairs", "BadTerm", "BadNumber", "BadExchange", "NoTerm", "OtherTasks", "Lacks", "BadRun", "BadRuns", "BadText", "NothingLeft", "TooGreat", "MOST_TASKS", "is_whole", "is_among", "is_list", "is_pair", "with_pair", "Order", "_law_mixed", "_law_folded", "_law_draw", "_law_begun", "_law_class"] : List PySem.Str)
abbrev R : PySem.W.OpenRow := PySem.W.OpenLaw.row PySem.Challenge.rw_behindbeside_k78_exceptions_of_both_part
abbrev hk : PySem.W.Hook := L.hook 6
def ob (s : PySem.W.SharedT) : Bool × List He.FnW := L.obs 6 (HandSHeadRun.getT s)
theorem ob_eq (s : PySem.W.SharedT) : ob s = hk.obs s.abs := L.obs_eq (HandSHeadRun.getT_eq s)
theorem run (w : World) : HandSHeadRun.RunEq R (PySem.W.view R.prog [29]) hk ob 20000 loose w := by
  intro os
  kernel_rfl
end Dk78
end Qi
namespace Qi
inductive Tm where
  | leaf (i : Int)
  | node (b : Bool) (l : List Tm)
namespace Tm
mutual
theorem ind {P : Tm → Prop} (h1 : ∀ i, P (leaf i)) (h2 : ∀ b l, (∀ t ∈ l, P t) → P (node b l)) : ∀ t, P t
  | leaf i => h1 i
  | node b l => h2 b l (indL h1 h2 l)
theorem indL {P : Tm → Prop} (h1 : ∀ i, P (leaf i)) (h2 : ∀ b l, (∀ t ∈ l, P t) → P (node b l)) : ∀ l : List Tm, ∀ t ∈ l, P t
  | [], t, h => by cases h
  | u :: r, t, h => by
    rcases List.mem_cons.mp h with e | h
    · rw [e]; exact ind h1 h2 u
    · exact indL h1 h2 r t h
end
mutual
def tasks : Tm → List Int
  | leaf i => [i]
  | node _ l => tasksL l
def tasksL : List Tm → List Int
  | [] => []
  | t :: r => tasks t ++ tasksL r
end
mutual
def depth : Tm → Nat
  | leaf _ => 0
  | node _ l => depthL l + 1
def depthL : List Tm → Nat
  | [] => 0
  | t :: r => max (depth t) (depthL r)
end
mutual
def nodes : Tm → Nat
  | leaf _ => 0
  | node _ l => nodesL l + 1
def nodesL : List Tm → Nat
  | [] => 0
  | t :: r => nodes t + nodesL r
end
mutual
def wide : Tm → Bool
  | leaf _ => true
  | node _ l => decide (2 ≤ l.length) && wideL l
def wideL : List Tm → Bool
  | [] => true
  | t :: r => wide t && wideL r
end
def prod (xs ys : List Int) : List (Int × Int) := xs.flatMap fun x => ys.map fun y => (x, y)
def cross : List Tm → List (Int × Int)
  | [] => []
  | t :: r => (r.flatMap fun u => prod t.tasks u.tasks) ++ cross r
mutual
def pr : Tm → List (Int × Int)
  | leaf _ => []
  | node b l => prL l ++ (if b = true then cross l else [])
def prL : List Tm → List (Int × Int)
  | [] => []
  | t :: r => pr t ++ prL r
end
theorem tasksL_eq (l : List Tm) : tasksL l = l.flatMap tasks := by
  induction l with
  | nil => rfl
  | cons t r ih => simp [tasksL, ih]
theorem wide_mem {t : Tm} {l : List Tm} (hw : wideL l = true) (h : t ∈ l) : t.wide = true := by
  induction l with
  | nil => cases h
  | cons u r ih =>
    simp only [wideL, Bool.and_eq_true] at hw
    rcases List.mem_cons.mp h with rfl | h
    · exact hw.1
    · exact ih hw.2 h
theorem wideL_of {l : List Tm} (h : ∀ t ∈ l, t.wide = true) : wideL l = true := by
  induction l with
  | nil => rfl
  | cons u r ih => simp only [wideL, Bool.and_eq_true]; exact ⟨h u List.mem_cons_self, ih fun t ht => h t (List.mem_cons_of_mem _ ht)⟩
/-- so many brackets -/
theorem nodes_le : ∀ t : Tm, t.wide = true → t.nodes + 1 ≤ t.tasks.length := by
  apply ind
  · intro i _; simp [nodes, tasks]
  · intro b l ih hw
    simp only [wide, Bool.and_eq_true, decide_eq_true_eq] at hw
    simp only [nodes, tasks]
    have : ∀ l : List Tm, (∀ t ∈ l, t.wide = true → t.nodes + 1 ≤ t.tasks.length) → wideL l = true → nodesL l + l.length ≤ (tasksL l).length := by
      intro l
      induction l with
      | nil => intro _ _; simp [nodesL, tasksL]
      | cons u r ih2 =>
        intro h hw
        simp only [wideL, Bool.and_eq_true] at hw
        have h1 := h u List.mem_cons_self hw.1
        have h2 := ih2 (fun t ht => h t (List.mem_cons_of_mem _ ht)) hw.2
        simp only [nodesL, tasksL, List.length_append, List.length_cons]
        omega
    have := this l ih hw.2
    omega
theorem tasks_pos : ∀ t : Tm, t.wide = true → 1 ≤ t.tasks.length := fun t h => by have := nodes_le t h; omega
end Tm
end Qi
namespace Qi
namespace Tm
mutual
def told : Tm → List (Int × Int)
  | leaf _ => []
  | node b l => toldL b [] l
def toldL (b : Bool) (ahead : List Int) : List Tm → List (Int × Int)
  | [] => []
  | t :: r => (told t ++ (if b = true then ahead.flatMap (fun a => t.tasks.map fun c => (a, c)) else [])) ++ toldL b (ahead ++ t.tasks) r
end
mutual
def turned : Tm → Tm
  | leaf i => leaf i
  | node b l => node b (if b = true then turnedL l else (turnedL l).reverse)
def turnedL : List Tm → List Tm
  | [] => []
  | t :: r => turned t :: turnedL r
end
theorem turnedL_eq (l : List Tm) : turnedL l = l.map turned := by
  induction l with
  | nil => rfl
  | cons t r ih => simp [turnedL, ih]
theorem turned_tasks : ∀ (t : Tm), t.turned.tasks.Perm t.tasks := by
  apply ind
  · intro i; simp [turned, tasks]
  · intro b l ih
    have h0 : ∀ l : List Tm, (∀ t ∈ l, t.turned.tasks.Perm t.tasks) → (tasksL (turnedL l)).Perm (tasksL l) := by
      intro l
      induction l with
      | nil => intro _; simp [turnedL]
      | cons u r ih2 =>
        intro h
        simp only [turnedL, tasksL]
        exact (h u List.mem_cons_self).append (ih2 fun t ht => h t (List.mem_cons_of_mem _ ht))
    simp only [turned]
    cases b with
    | true => simp only [if_true, tasks]; exact h0 l ih
    | false =>
      simp only [tasks]
      rw [if_neg (by decide)]
      refine List.Perm.trans ?_ (h0 l ih)
      rw [tasksL_eq, tasksL_eq]
      exact List.Perm.flatMap_right _ (List.reverse_perm _)
theorem turned_wide : ∀ (t : Tm), t.wide = true → t.turned.wide = true := by
  apply ind
  · intro i _; rfl
  · intro b l ih hw
    simp only [wide, Bool.and_eq_true, decide_eq_true_eq] at hw
    have h1 : wideL (turnedL l) = true := wideL_of fun t ht => by
      rw [turnedL_eq] at ht
      obtain ⟨u, hu, rfl⟩ := List.mem_map.mp ht
      exact ih u hu (wide_mem hw.2 hu)
    have h2 : (turnedL l).length = l.length := by rw [turnedL_eq, List.length_map]
    cases b with
    | true => simp only [turned, if_true, wide, Bool.and_eq_true, decide_eq_true_eq]; exact ⟨by omega, h1⟩
    | false =>
      simp only [turned, wide, Bool.and_eq_true, decide_eq_true_eq]
      rw [if_neg (by decide)]
      refine ⟨by rw [List.length_reverse]; omega, wideL_of fun t ht => ?_⟩
      exact wide_mem h1 (List.mem_reverse.mp ht)
end Tm
end Qi
namespace Qi
/-- so many tasks, from 0 on -/
def upto (n : Nat) : List Int := (List.range n).map fun (i : Nat) => (i : Int)
theorem upto_len {n : Nat} : (upto n).length = n := by unfold upto; simp
end Qi
namespace Qi
open PySem PySem.Spec L2 PyProof.Rows
section
variable {α β : Type} {S S1 S2 : Sto} {σ σ1 : Sl} {a : α} {d e : D} {i : Nat}
@[simp] theorem bind_ok {f : α → Sto → Res β} : (Res.ok a S).bind f = f a S := rfl
@[simp] theorem bind_exc {f : α → Sto → Res β} : (Res.exc d S : Res α).bind f = .exc d S := rfl
@[simp] theorem bind_stuck {f : α → Sto → Res β} : (Res.stuck : Res α).bind f = .stuck := rfl
@[simp] theorem nox_ok : (Res.ok a S).nox = .ok a S := rfl
@[simp] theorem nox_exc : (Res.exc d S : Res α).nox = .stuck := rfl
@[simp] theorem nox_stuck : (Res.stuck : Res α).nox = .stuck := rfl
@[simp] theorem rsv_non : rsv S .non = .non := rfl
@[simp] theorem rsv_bl {b : Bool} : rsv S (.bl b) = .bl b := rfl
@[simp] theorem rsv_int {b : Int} : rsv S (.int b) = .int b := rfl
@[simp] theorem rsv_str {b : Str} : rsv S (.str b) = .str b := rfl
@[simp] theorem rsv_tup {l : List D} : rsv S (.tup l) = .tup l := rfl
@[simp] theorem rsv_lst {l : List D} : rsv S (.lst l) = .lst l := rfl
@[simp] theorem rsv_obj {c : Nat} {l : List D} : rsv S (.obj c l) = .obj c l := rfl
@[simp] theorem rsv_scr {l : List Int} : rsv S (.scr l) = .scr l := rfl
theorem rsv_ref {n : Nat} {l : List D} (h : S[n]? = some (.lst l)) : rsv S (.ref n) = .lst l := by show rsvN S n = _; unfold rsvN; rw [h]
theorem x1_of {f : D → Sto → Res D} {m : Ex} (h : m σ S = .ok d S1) : x1 f m σ S = f (rsv S1 d) S1 := by unfold x1; rw [h]; rfl
theorem x2_of {f : D → D → Sto → Res D} {m n : Ex} (h : m σ S = .ok d S1) (h' : n σ S1 = .ok e S2) : x2 f m n σ S = f (rsv S2 d) (rsv S2 e) S2 := by unfold x2; rw [h, bind_ok, h']; rfl
theorem alt_l {m n : Sl → Sto → Res α} (h : m σ S = .ok a S1) : alt m n σ S = .ok a S1 := alt_ok h
theorem seq_next {m n : Co} (h : m σ S = .ok (.next σ1) S1) : cSeq m n σ S = n σ1 S1 := by unfold cSeq; rw [h]; rfl
theorem seq_ret {m n : Co} (h : m σ S = .ok (.ret d) S1) : cSeq m n σ S = .ok (.ret d) S1 := by unfold cSeq; rw [h]; rfl
theorem if_t {t : Ts} {m n : Co} (h : t σ S = .ok true S1) : cIf t m n σ S = m σ S1 := by unfold cIf; rw [h]; rfl
theorem if_f {t : Ts} {m n : Co} (h : t σ S = .ok false S1) : cIf t m n σ S = n σ S1 := by unfold cIf; rw [h]; rfl
theorem xI_t {t : Ts} {m n : Ex} (h : t σ S = .ok true S1) : xI t m n σ S = m σ S1 := by unfold xI; rw [h]; rfl
theorem xI_f {t : Ts} {m n : Ex} (h : t σ S = .ok false S1) : xI t m n σ S = n σ S1 := by unfold xI; rw [h]; rfl
theorem tE_of {m : Ex} {b : Bool} (h : m σ S = .ok (.bl b) S1) : tE m σ S = .ok b S1 := by unfold tE; rw [h]; rfl
theorem ret_of {m : Ex} (h : m σ S = .ok d S1) : cRet m σ S = .ok (.ret d) S1 := by unfold cRet; rw [h]; rfl
theorem set_of {m : Ex} (h : m σ S = .ok d S1) : cSet i m σ S = .ok (.next (σ.set i (some d))) S1 := by unfold cSet; rw [h]; rfl
theorem setL_of {m : Ex} {l : List D} (h : m σ S = .ok (.lst l) S1) : cSetL i m σ S = .ok (.next (σ.set i (some (.lst l)))) S1 := by unfold cSetL; rw [h]; rfl
theorem aC_of {m : Ex} {r : Ag} {l : List D} (h : m σ S = .ok d S1) (h' : r σ S1 = .ok l S2) : aC m r σ S = .ok (d :: l) S2 := by unfold aC; rw [h, bind_ok, h']; rfl
theorem aN_of : aN σ S = .ok [] S := rfl
theorem mIt_scr {m : Ex} {l : List Int} (h : m σ S = .ok (.scr l) S1) : mIt m σ S = .ok (l.map D.int) S1 := by unfold mIt; rw [h]; rfl
theorem mEnum_scr {m : Ex} {l : List Int} (h : m σ S = .ok (.scr l) S1) : mEnum m σ S = .ok (enmL 0 (l.map D.int)) S1 := by unfold mEnum; rw [h]; rfl
theorem mRg1_of {m : Ex} {n : Int} (h : m σ S = .ok (.int n) S1) (h1 : -1000000000 ≤ n) (h2 : n ≤ 16777216) : mRg1 m σ S = .ok (rngD 0 n.toNat) S1 := by
  unfold mRg1; rw [h, bind_ok]; simp [h1, h2]
theorem mRg2_of {m m' : Ex} {n n' : Int} (h : m σ S = .ok (.int n) S1) (h' : m' σ S1 = .ok (.int n') S2) (h1 : -1000000000 ≤ n) (h2 : n ≤ 16777216) (h3 : -1000000000 ≤ n') (h4 : n' ≤ 16777216) (h5 : n' - n ≤ 16777216) : mRg2 m m' σ S = .ok (rngD n (n' - n).toNat) S2 := by
  unfold mRg2; rw [h, bind_ok, h', bind_ok]; simp [h1, h2, h3, h4, h5]
theorem for_of {m : Ag} {t : Tgt} {b : Co} {l : List D} (h : m σ S = .ok l S1) : cFor m t b σ S = forL t b l σ S1 := by unfold cFor; rw [h]; rfl
theorem xLc_of {mi : Ag} {t : Tgt} {c : Ts} {m : Ex} {vs : List Nat} {l ys : List D} (h : mi σ S = .ok l S1) (h' : lcL t c m (wipeD σ vs) l S1 = .ok ys S2) : xLc mi t c m vs σ S = .ok (.lst ys) S2 := by unfold xLc; rw [h, bind_ok, h']; rfl
theorem xCall_of {cf : Cf} {f np : Nat} {ms : Ag} {l : List D} (h : ms σ S = .ok l S1) (hl : l.length = np) : xCall cf f np ms σ S = cf f l S1 := by unfold xCall; rw [h, bind_ok, if_pos hl]
end
def isObj : D → Bool
  | .obj _ _ => true
  | _ => false
section
variable {G : Gx} {m n : Ex} {S S1 S2 : Sto} {σ : Sl} {d e : D}
theorem cLen_of (h : m σ S = .ok d S1) (hn : isObj (rsv S1 d) = false) : cLen G m σ S = oLen (rsv S1 d) S1 := by
  unfold cLen
  cases G.cls with
  | nil => exact x1_of h
  | cons E r =>
    show xLenA G.cf E.fLen E.cn m σ S = _
    unfold xLenA
    rw [h, bind_ok]
    split
    · rename_i c fs q; rw [q] at hn; cases hn
    · rfl
theorem cLen_ref {r : Nat} {l : List D} (h : m σ S = .ok (.ref r) S1) (hr : S1[r]? = some (.lst l)) : cLen G m σ S = .ok (.int (l.length : Nat)) S1 := by
  rw [cLen_of h (by rw [rsv_ref hr]; rfl), rsv_ref hr]; rfl
theorem cNe_of (h : m σ S = .ok d S1) (h' : n σ S1 = .ok e S2) (hn : isObj (rsv S2 d) = false ∨ isObj (rsv S2 e) = false) : cCmpX G .NotEq m n σ S = oNe (rsv S2 d) (rsv S2 e) S2 := by
  show cEqs G.cf true m n G.cls σ S = _
  unfold cEqs
  cases G.cls with
  | nil => show x2 oNe m n σ S = _; rw [x2_of h h']
  | cons E r =>
    show x2 (eqA G.cf E.fEq E.cn true) m n σ S = _
    rw [x2_of h h']
    unfold eqA
    split
    · rename_i q1 q2; rw [q1, q2] at hn; rcases hn with hn | hn <;> cases hn
    · rfl
end
theorem okd_int {n : Nat} {i : Int} : okd n (.int i) = true := by cases n <;> rfl
theorem deqs_ints : ∀ {l l' : List Int}, deqs (l.map D.int) (l'.map D.int) = decide (l = l')
  | [], [] => rfl
  | [], _ :: _ => rfl
  | _ :: _, [] => rfl
  | a :: l, b :: l' => by
    simp only [List.map_cons, deqs, deq, deqs_ints, List.cons.injEq, Bool.decide_and]
    rfl
theorem okd_ints {n : Nat} {l : List Int} : okd (n + 1) (.lst (l.map D.int)) = true := by
  show (l.map D.int).all (okd n) = true
  rw [List.all_eq_true]
  intro x hx
  obtain ⟨i, _, rfl⟩ := List.mem_map.mp hx
  exact okd_int
theorem G_cf {L : LawD} {cf : Cf} : (L.G cf).cf = cf := rfl
theorem call_eq {T : Tab} {f : Nat} {d : FDef} {k : Nat} {ds : List D} {S : Sto} (h : T f = some d) : callN T (k + 1) f ds S = runB d.np d.ns (d.code (callN T k)) ds S := by
  show (match T f with | some d => _ | none => _) = _
  rw [h]
theorem runB_ret {np ns : Nat} {m : Co} {ds : List D} {S S1 : Sto} {d : D} (hl : ds.length = np) (h : m (startD ns ds) S = .ok (.ret d) S1) : runB np ns m ds S = .ok d S1 := by
  unfold runB; rw [if_pos hl, h]
theorem forL_inv {t : Tgt} {b : Co} {all : List D} (I : List D → Sl → Sto → Prop) (step : ∀ done d rest σ S, all = done ++ d :: rest → I done σ S → ∃ σ1, asgD t d σ = some σ1 ∧ ∃ σ2 S2, b σ1 S = .ok (.next σ2) S2 ∧ I (done ++ [d]) σ2 S2) :
    ∀ (l done : List D) (σ : Sl) (S : Sto), all = done ++ l → I done σ S → ∃ σ' S', forL t b l σ S = .ok (.next σ') S' ∧ I all σ' S'
  | [], done, σ, S, e, h => ⟨σ, S, rfl, by rw [e, List.append_nil]; exact h⟩
  | d :: l, done, σ, S, e, h => by
    obtain ⟨σ1, h1, σ2, S2, h2, h3⟩ := step done d l σ S e h
    obtain ⟨σ', S', h4, h5⟩ := forL_inv I step l (done ++ [d]) σ2 S2 (by rw [e]; simp) h3
    refine ⟨σ', S', ?_, h5⟩
    show (match asgD t d σ with | some σ1 => _ | none => _) = _
    rw [h1]
    show (b σ1 S).bind _ = _
    rw [h2]
    exact h4
theorem for_inv {t : Tgt} {b : Co} {l : List D} {σ : Sl} {S : Sto} (I : List D → Sl → Sto → Prop) (h0 : I [] σ S) (step : ∀ done d rest σ S, l = done ++ d :: rest → I done σ S → ∃ σ1, asgD t d σ = some σ1 ∧ ∃ σ2 S2, b σ1 S = .ok (.next σ2) S2 ∧ I (done ++ [d]) σ2 S2) : ∃ σ' S', forL t b l σ S = .ok (.next σ') S' ∧ I l σ' S' :=
  forL_inv I step l [] σ S rfl h0
/-- a loop that does nothing, or ends it all -/
theorem forL_nil {t : Tgt} {b : Co} {σ : Sl} {S : Sto} : forL t b [] σ S = .ok (.next σ) S := rfl
/-- comprehensions that leave the store -/
theorem lcL_pure {t : Tgt} {c : Ts} {m : Ex} {σ : Sl} {S : Sto} (p : D → Bool) (f : D → D) : ∀ (l : List D), (∀ d ∈ l, ∃ σ1, asgD t d σ = some σ1 ∧ c σ1 S = .ok (p d) S ∧ (p d = true → m σ1 S = .ok (f d) S)) → lcL t c m σ l S = .ok ((l.filter p).map f) S
  | [], _ => rfl
  | d :: l, h => by
    obtain ⟨σ1, h1, h2, h3⟩ := h d List.mem_cons_self
    have ih := lcL_pure p f l fun x hx => h x (List.mem_cons_of_mem _ hx)
    simp only [lcL, h1, h2, nox_ok, bind_ok]
    cases q : p d with
    | true => simp [h3 q, ih, q]
    | false => simp [ih, q]
theorem lcL_map {t : Tgt} {m : Ex} {σ : Sl} {S : Sto} (f : D → D) (l : List D) (h : ∀ d ∈ l, ∃ σ1, asgD t d σ = some σ1 ∧ m σ1 S = .ok (f d) S) : lcL t tT m σ l S = .ok (l.map f) S := by
  have := lcL_pure (c := tT) (m := m) (fun _ => true) f l fun d hd => by
    obtain ⟨σ1, h1, h2⟩ := h d hd
    exact ⟨σ1, h1, rfl, fun _ => h2⟩
  rw [this]
  rw [List.filter_eq_self.mpr fun _ _ => rfl]
end Qi
namespace Qi
open PySem PySem.Spec L2 PyProof.Rows
theorem cMul_l {a b : Int} (h : 0 ≤ a) (h' : a < 18446744073709551616) : cMul a b = true := by
  unfold cMul
  simp only [Bool.or_eq_true, Bool.and_eq_true, decide_eq_true_eq]
  exact .inl ⟨by omega, h'⟩
theorem cMul_r {a b : Int} (h : 0 ≤ b) (h' : b < 18446744073709551616) : cMul a b = true := by
  unfold cMul
  simp only [Bool.or_eq_true, Bool.and_eq_true, decide_eq_true_eq]
  exact .inr ⟨by omega, h'⟩
section
variable {L : LawD} {k : Nat} {S : Sto}
theorem mixed_ok (h : L.T 19 = some (d_law_mixed L)) {c n : Int} (hc : 0 ≤ c) (hc2 : c < 4611686018427387904) (hn : 0 ≤ n) (hn2 : n < 1099511627776) : ∃ r, 0 ≤ r ∧ r < 2147483629 ∧ callN L.T (k + 1) 19 [.int c, .int n] S = .ok (.int r) S := by
  have m1 : cMul 2 n = true := cMul_r hn (by omega)
  have m2 : cMul c (1 + 2 * n) = true := cMul_l hc (by omega)
  have m3 : cMul (c * (1 + 2 * n)) 48271 = true := cMul_r (by decide) (by decide)
  have m4 : cMul 7919 n = true := cMul_r hn (by omega)
  have m5 : cMul (7919 * n) n = true := cMul_r hn (by omega)
  have m6 : cMul 104729 n = true := cMul_r hn (by omega)
  have m7 : ∀ x : Int, cMul x 69621 = true := fun x => cMul_r (by decide) (by decide)
  rw [call_eq h]
  refine ⟨_, ?_, ?_, runB_ret rfl (by simp [d_law_mixed, c_law_mixed, startD, cSeq, cSet, cRet, x2, x1, xV, xC, oAdd, oMul, m1, m2, m3, m4, m5, m6, m7, oMod, oI, cMod, oInt, oFdiv, cDiv]; rfl)⟩
  · omega
  · omega
theorem ixN_of {n : Nat} {i : Int} (h0 : 0 ≤ i) (h1 : i < n) : ixN n i = some i.toNat := by unfold ixN; rw [if_pos h0, if_pos h1]
theorem atI_of {α : Type} {xs : List α} {i : Int} (h0 : 0 ≤ i) (h1 : i < xs.length) : atI xs i = xs[i.toNat]? := by unfold atI; rw [ixN_of h0 h1]; rfl
theorem atI_ints {l : List Int} {i : Int} (h0 : 0 ≤ i) (h1 : i < l.length) : ∃ c, c ∈ l ∧ l[i.toNat]? = some c ∧ atI (l.map D.int) i = some (.int c) := by
  have hlt : i.toNat < l.length := by omega
  refine ⟨l[i.toNat], List.getElem_mem hlt, List.getElem?_eq_getElem hlt, ?_⟩
  rw [atI_of h0 (by rw [List.length_map]; exact h1), List.getElem?_map, List.getElem?_eq_getElem hlt]; rfl
theorem enm_split {l done rest : List D} {d : D} (h : enmL 0 l = done ++ d :: rest) : ∃ x, l[done.length]? = some x ∧ d = .tup [.int (done.length : Nat), x] := by
  have e := enmL_get 0 l done.length
  rw [h, List.getElem?_append_right (Nat.le_refl _), Nat.sub_self] at e
  simp only [List.getElem?_cons_zero] at e
  cases q : l[done.length]? with
  | none => rw [q] at e; cases e
  | some x =>
    rw [q] at e
    simp only [Option.map_some, Option.some.injEq, Nat.zero_add] at e
    exact ⟨x, rfl, e⟩
theorem rng_split {lo : Int} {n : Nat} {done rest : List D} {d : D} (h : rngD lo n = done ++ d :: rest) : d = .int (lo + (done.length : Nat)) ∧ done.length < n := by
  have hl := congrArg List.length h
  rw [rngD_len, List.length_append, List.length_cons] at hl
  have hlt : done.length < n := by omega
  refine ⟨?_, hlt⟩
  have e : (rngD lo n)[done.length]? = some (.int (lo + (done.length : Nat))) := by
    unfold rngD
    rw [List.getElem?_map, List.getElem?_range hlt]; rfl
  rw [h, List.getElem?_append_right (Nat.le_refl _), Nat.sub_self] at e
  simpa using e
def Cells (l : List Int) : Prop := l.length = 64 ∧ ∀ c ∈ l, 0 ≤ c ∧ c < 2147483647
theorem Cells.set {l : List Int} (h : Cells l) (i : Nat) {x : Int} (h0 : 0 ≤ x) (h1 : x < 2147483647) : Cells (l.set i x) := by
  refine ⟨by rw [List.length_set]; exact h.1, fun c hc => ?_⟩
  rcases List.mem_or_eq_of_mem_set hc with h' | rfl
  · exact h.2 c h'
  · exact ⟨h0, h1⟩
theorem folded_ok (h : L.T 20 = some (d_law_folded L)) (ns : List Int) (S : Sto) : ∃ l, Cells l ∧ callN L.T (k + 1) 20 [.scr ns] S = .ok (.lst (l.map D.int)) S := by
  rw [call_eq h]
  let I : List D → Sl → Sto → Prop := fun _ σ S' => S' = S ∧ ∃ l x y, Cells l ∧ σ = [some (.scr ns), some (.lst (l.map D.int)), x, y]
  have s0 : cSetL 1 (xLc (mRg1 (xC (.int 64))) (.nm 2) tT (x2 oAdd (xC (.int 17)) (xV 2)) [2]) (startD 4 [.scr ns]) S = .ok (.next [some (.scr ns), some (.lst (((List.range 64).map fun (i : Nat) => (17 + (i : Int))).map D.int)), none, none]) S := by
    refine setL_of (xLc_of (mRg1_of rfl (by decide) (by decide)) (lcL_map (fun d => match d with | .int i => .int (17 + i) | d => d) _ ?_)) |>.trans ?_
    · intro d hd
      unfold rngD at hd
      obtain ⟨i, _, rfl⟩ := List.mem_map.mp hd
      exact ⟨_, rfl, rfl⟩
    · congr 2
  have c0 : Cells ((List.range 64).map fun (i : Nat) => (17 + (i : Int))) := ⟨by simp, fun c hc => by
    obtain ⟨i, hi, rfl⟩ := List.mem_map.mp hc
    have := List.mem_range.mp hi
    omega⟩
  obtain ⟨σ1, S1, f1, rfl, l1, x1, y1, c1, rfl⟩ := for_inv (t := .tp [2, 3]) (b := c_law_folded_b1 (L.G (callN L.T k))) (l := enmL 0 (ns.map D.int)) I (⟨rfl, _, _, _, c0, rfl⟩ : I [] _ S) fun done d rest σ S' e => by
    rintro ⟨rfl, l, x, y, c, rfl⟩
    obtain ⟨z, hz, rfl⟩ := enm_split e
    rw [List.getElem?_map] at hz
    cases q : ns[done.length]? with
    | none => rw [q] at hz; cases hz
    | some v =>
      rw [q] at hz
      cases hz
      have b0 : (0 : Int) ≤ (done.length : Int) % 64 := by omega
      have b1 : ((done.length : Int) % 64) < l.length := by rw [c.1]; omega
      obtain ⟨u, hu, _, hat⟩ := atI_ints b0 b1
      refine ⟨_, rfl, _, _, ?_, rfl, l.set ((done.length : Int) % 64).toNat ((u * 48271 + v) % 2147483647), some (.int (done.length : Nat)), some (.int v), c.set _ (by omega) (by omega), rfl⟩
      have m1 : cMul u 48271 = true := cMul_r (by decide) (by decide)
      have hx : ixN l.length ((done.length : Int) % 64) = some ((done.length : Int) % 64).toNat := ixN_of b0 b1
      simp [c_law_folded_b1, cSetI, withL, asL, x2, x1, xV, xC, xVB, oMod, oI, cMod, oInt, alt, Res.alt, oIx, hat, oMul, m1, oAdd, hx, List.map_set]
  obtain ⟨σ2, S2, f2, rfl, l2, x2, y2, c2, rfl⟩ := for_inv (t := .nm 2) (b := c_law_folded_b2 (L.G (callN L.T k))) (l := rngD 1 63) I (⟨rfl, _, _, _, c1, rfl⟩ : I [] _ _) fun done d rest σ S' e => by
    rintro ⟨rfl, l, x, y, c, rfl⟩
    obtain ⟨rfl, hlt⟩ := rng_split e
    have b0 : (0 : Int) ≤ 1 + (done.length : Nat) := by omega
    have b1 : (1 + (done.length : Nat) : Int) < l.length := by rw [c.1]; omega
    obtain ⟨u, hu, _, hat⟩ := atI_ints b0 b1
    have b2 : (0 : Int) ≤ 1 + (done.length : Nat) - 1 := by omega
    have b3 : (1 + (done.length : Nat) - 1 : Int) < l.length := by rw [c.1]; omega
    obtain ⟨v, hv, _, hat2⟩ := atI_ints b2 b3
    refine ⟨_, rfl, _, _, ?_, rfl, l.set (1 + (done.length : Nat) : Int).toNat ((u + v * 16807) % 2147483647), some (.int (1 + (done.length : Nat))), y, c.set _ (by omega) (by omega), rfl⟩
    have m1 : cMul v 16807 = true := cMul_r (by decide) (by decide)
    have hx : ixN l.length (1 + (done.length : Nat)) = some (1 + (done.length : Nat) : Int).toNat := ixN_of b0 b1
    simp only [c_law_folded_b2, cSetI, withL, asL, Qi.x2, Qi.x1, xV, xC, xVB, oMod, oI, cMod, oInt, alt, oSub, cAll]
    simp [Res.alt, oIx, hat, hat2, oMul, m1, oAdd, hx, List.map_set]
  refine ⟨l2, c2, runB_ret rfl ?_⟩
  show c_law_folded _ (startD 4 [.scr ns]) _ = _
  unfold c_law_folded
  rw [seq_next s0, seq_next ((for_of (mEnum_scr rfl)).trans f1), seq_next ((for_of (mRg2_of rfl rfl (by decide) (by decide) (by decide) (by decide) (by decide))).trans f2)]
  exact alt_l (ret_of rfl)
end
section
variable {S S1 S2 : Sto} {σ : Sl} {a b m : Ex} {d x : D}
theorem alt_r {α : Type} {m n : Sl → Sto → Res α} (h : m σ S = .stuck) : alt m n σ S = n σ S := alt_stuck h
theorem get_key {r : Nat} {y : Str} {kds : List (Key × D)} (ha : a σ S = .ok (.ref r) S) (hb : b σ S = .ok (.str y) S) (hm : S[r]? = some (.dic kds)) (hv : valD kds (.inr y) = some d) : alt (x2 oIx a b) (xGet a b) σ S = .ok d S := by
  have e1 : rsv S (.ref r) = .ref r := by show rsvN S r = _; unfold rsvN; rw [hm]
  have e2 : cellD S r = some kds := by unfold cellD; rw [hm]
  rw [alt_r (by rw [x2_of ha hb, e1]; rfl)]
  unfold xGet
  rw [ha, bind_ok, hb, bind_ok]
  simp [oGet, e2, toKey, hv]
theorem ix_lst {l : List D} {i : Int} (ha : a σ S = .ok (.lst l) S1) (hb : b σ S1 = .ok (.int i) S2) (h0 : 0 ≤ i) (hd : l[i.toNat]? = some d) : alt (x2 oIx a b) (xGet a b) σ S = .ok d S2 := by
  have hlt := (List.getElem?_eq_some_iff.mp hd).1
  refine alt_l ?_
  rw [x2_of ha hb]
  simp only [rsv_lst, rsv_int, oIx]
  rw [atI_of h0 (by omega), hd]
theorem ix_ref {r : Nat} {l : List D} {i : Int} (ha : a σ S = .ok (.ref r) S1) (hb : b σ S1 = .ok (.int i) S2) (hr : S2[r]? = some (.lst l)) (h0 : 0 ≤ i) (hd : l[i.toNat]? = some d) : alt (x2 oIx a b) (xGet a b) σ S = .ok d S2 := by
  have hlt := (List.getElem?_eq_some_iff.mp hd).1
  refine alt_l ?_
  rw [x2_of ha hb, rsv_ref hr]
  simp only [rsv_int, oIx]
  rw [atI_of h0 (by omega), hd]
theorem put_key {r : Nat} {y : Str} {kds : List (Key × D)} {n : Co} (hm : m σ S = .ok x S1) (ha : a σ S1 = .ok (.ref r) S1) (hb : b σ S1 = .ok (.str y) S1) (hr : S1[r]? = some (.dic kds)) (hl : kds.length + 1 ≤ 16777216) : alt (cPutD a b m) n σ S = .ok (.next σ) (S1.set r (.dic (putD kds (.inr y) x))) := by
  have e2 : cellD S1 r = some kds := by unfold cellD; rw [hr]
  refine alt_l ?_
  unfold cPutD
  rw [hm, bind_ok, ha, bind_ok, hb, bind_ok]
  simp [e2, toKey, szOk, hl]
theorem put_ix {r : Nat} {l : List D} {i : Int} (hm : m σ S = .ok x S1) (ha : a σ S1 = .ok (.ref r) S1) (hb : b σ S1 = .ok (.int i) S1) (hr : S1[r]? = some (.lst l)) (h0 : 0 ≤ i) (h1 : i < l.length) : alt (cPutD a b m) (cSetR a b m) σ S = .ok (.next σ) (S1.set r (.lst (l.set i.toNat x))) := by
  have e2 : cellD S1 r = none := by unfold cellD; rw [hr]
  have e3 : cellL S1 r = some l := by unfold cellL; rw [hr]
  rw [alt_r (by unfold cPutD; rw [hm, bind_ok, ha, bind_ok, hb, bind_ok]; simp [e2])]
  unfold cSetR
  rw [hm, bind_ok, ha, bind_ok, hb, bind_ok]
  simp [e3, ixN_of h0 h1]
end
def drL (l : List Int) (g n : Nat) : List (Key × D) := [(.inr "cells", .lst (l.map D.int)), (.inr "great", .ref g), (.inr "spot", .int (n : Nat))]
def drD (l : List Int) (g n : Nat) : Cell := .dic (drL l g n)
theorem ne_cg : ¬ (Str.ofString "cells" = Str.ofString "great") := by decide +kernel
theorem ne_cs : ¬ (Str.ofString "cells" = Str.ofString "spot") := by decide +kernel
theorem ne_gs : ¬ (Str.ofString "great" = Str.ofString "spot") := by decide +kernel
theorem val_cells {l : List Int} {g n : Nat} : valD (drL l g n) (.inr "cells") = some (.lst (l.map D.int)) := by simp [valD, drL]
theorem val_great {l : List Int} {g n : Nat} : valD (drL l g n) (.inr "great") = some (.ref g) := by simp [valD, drL, ne_cg]
theorem val_spot {l : List Int} {g n : Nat} : valD (drL l g n) (.inr "spot") = some (.int (n : Nat)) := by simp [valD, drL, ne_cs, ne_gs]
theorem put_spot {l : List Int} {g n : Nat} : putD (drL l g n) (.inr "spot") (.int ((n : Int) + 1)) = drL l g (n + 1) := by simp [putD, drL, ne_cs, ne_gs]
theorem put_great {l : List Int} {g g' n : Nat} : putD (drL l g n) (.inr "great") (.ref g') = drL l g' n := by simp [putD, drL, ne_cg, Ne.symm ne_gs]
structure Dr (m g b : Nat) (S : Sto) : Prop where
  ex : ∃ (l gr : List Int) (n : Nat), S[m]? = some (drD l g n) ∧ S[g]? = some (.lst (gr.map D.int)) ∧ Cells l ∧ (∀ c ∈ gr, 0 ≤ c) ∧ n ≤ b ∧ gr.length ≤ 63
  ne : g ≠ m
theorem Dr.mono {m g b b' : Nat} {S : Sto} (h : Dr m g b S) (hb : b ≤ b') : Dr m g b' S := by
  obtain ⟨⟨l, gr, n, h1, h2, h3, h4, h5, h6⟩, ne⟩ := h
  exact ⟨⟨l, gr, n, h1, h2, h3, h4, Nat.le_trans h5 hb, h6⟩, ne⟩
/-- all but the two cells stays -/
structure Fr (m g : Nat) (S S' : Sto) : Prop where
  len : S'.length = S.length
  at_ : ∀ i, i ≠ m → i ≠ g → S'[i]? = S[i]?
theorem Fr.refl {m g : Nat} {S : Sto} : Fr m g S S := ⟨rfl, fun _ _ _ => rfl⟩
theorem Fr.trans {m g : Nat} {S S' S'' : Sto} (h : Fr m g S S') (h' : Fr m g S' S'') : Fr m g S S'' := ⟨h'.len.trans h.len, fun i h1 h2 => (h'.at_ i h1 h2).trans (h.at_ i h1 h2)⟩
theorem Fr.set_m {m g : Nat} {S : Sto} {c : Cell} : Fr m g S (S.set m c) := ⟨List.length_set, fun i h1 _ => List.getElem?_set_ne (Ne.symm h1)⟩
theorem Fr.set_g {m g : Nat} {S : Sto} {c : Cell} : Fr m g S (S.set g c) := ⟨List.length_set, fun i _ h2 => List.getElem?_set_ne (Ne.symm h2)⟩
section
variable {L : LawD} {k : Nat} {S : Sto}
theorem draw_ok (h19 : L.T 19 = some (d_law_mixed L)) (h21 : L.T 21 = some (d_law_draw L)) {m g b : Nat} (hD : Dr m g b S) (hb : b < 549755813888) {lim : Int} (h0 : 0 < lim) (h1 : lim < 1073741824) :
    ∃ (r : Int) (S' : Sto), 0 ≤ r ∧ r < lim ∧ callN L.T (k + 2) 21 [.ref m, .int lim] S = .ok (.int r) S' ∧ Dr m g (b + 1) S' ∧ Fr m g S S' := by
  obtain ⟨⟨l, gr, n, e1, e2, cl, hg, hn, hgl⟩, ne⟩ := hD
  rw [call_eq h21]
  have ltm := (List.getElem?_eq_some_iff.mp e1).1
  have ltg := (List.getElem?_eq_some_iff.mp e2).1
  -- the place goes on
  have s1 : cSet 2 (alt (x2 oIx (xV 0) (xC (.str "spot"))) (xGet (xV 0) (xC (.str "spot")))) (startD 6 [.ref m, .int lim]) S = .ok (.next [some (.ref m), some (.int lim), some (.int (n : Nat)), none, none, none]) S :=
    set_of (get_key rfl rfl e1 val_spot)
  have s2 : alt (cPutD (xV 0) (xC (.str "spot")) (x2 oAdd (xV 2) (xC (.int 1)))) (cSetR (xV 0) (xC (.str "spot")) (x2 oAdd (xV 2) (xC (.int 1)))) [some (.ref m), some (.int lim), some (.int (n : Nat)), none, none, none] S = .ok (.next [some (.ref m), some (.int lim), some (.int (n : Nat)), none, none, none]) (S.set m (drD l g (n + 1))) := by
    have := put_key (n := cSetR (xV 0) (xC (.str "spot")) (x2 oAdd (xV 2) (xC (.int 1)))) (m := x2 oAdd (xV 2) (xC (.int 1))) (a := xV 0) (b := xC (.str "spot")) (σ := [some (.ref m), some (.int lim), some (.int (n : Nat)), none, none, none]) (S := S) rfl rfl rfl e1 (by simp [drL])
    rw [put_spot] at this
    exact this
  generalize hS1 : S.set m (drD l g (n + 1)) = S1 at s2
  have f1 : S1[m]? = some (drD l g (n + 1)) := by rw [← hS1, List.getElem?_set_self ltm]
  have f2 : S1[g]? = some (.lst (gr.map D.int)) := by rw [← hS1, List.getElem?_set_ne (Ne.symm ne)]; exact e2
  have fr1 : Fr m g S S1 := by rw [← hS1]; exact Fr.set_m
  have hD1 : Dr m g (b + 1) S1 := ⟨⟨l, gr, n + 1, f1, f2, cl, hg, by omega, hgl⟩, ne⟩
  -- the last part
  have last : ∀ (x y z : Option D), ∃ r : Int, 0 ≤ r ∧ r < lim ∧ (cSeq (cSet 3 (alt (x2 oIx (xV 0) (xC (.str "cells"))) (xGet (xV 0) (xC (.str "cells")))))
  (cRet (x2 oMod (x1 oInt (xCall (L.G (callN L.T (k + 1))).cf 19 2 (aC (xCall (L.G (callN L.T (k + 1))).cf 19 2 (aC (x2 oAdd (alt (x2 oIx (xV 3) (x2 oMod (x1 oInt (xV 2)) (xC (.int 64)))) (xGet (xV 3) (x2 oMod (x1 oInt (xV 2)) (xC (.int 64))))) (x2 oMul (xC (.int 31)) (x2 oFdiv (xV 2) (xC (.int 64))))) (aC (xV 2) aN))) (aC (x2 oAdd (xV 2) (xC (.int 7))) aN)))) (xV 1)))) [some (.ref m), some (.int lim), some (.int (n : Nat)), x, y, z] S1 = .ok (.ret (.int r)) S1 := fun x y z => by
    have g1 : cSet 3 (alt (x2 oIx (xV 0) (xC (.str "cells"))) (xGet (xV 0) (xC (.str "cells")))) [some (.ref m), some (.int lim), some (.int (n : Nat)), x, y, z] S1 = .ok (.next [some (.ref m), some (.int lim), some (.int (n : Nat)), some (.lst (l.map D.int)), y, z]) S1 := set_of (get_key rfl rfl f1 val_cells)
    rw [seq_next g1]
    have b0 : (0 : Int) ≤ (n : Int) % 64 := by omega
    have b1 : ((n : Int) % 64) < l.length := by rw [cl.1]; omega
    obtain ⟨u, hu, hat, _⟩ := atI_ints b0 b1
    have i1 : alt (x2 oIx (xV 3) (x2 oMod (x1 oInt (xV 2)) (xC (.int 64)))) (xGet (xV 3) (x2 oMod (x1 oInt (xV 2)) (xC (.int 64)))) [some (.ref m), some (.int lim), some (.int (n : Nat)), some (.lst (l.map D.int)), y, z] S1 = .ok (.int u) S1 := ix_lst rfl rfl b0 (by rw [List.getElem?_map, hat]; rfl)
    have u0 := (cl.2 u hu).1
    have u1 := (cl.2 u hu).2
    obtain ⟨r1, p1, p2, q1⟩ := mixed_ok (k := k) (S := S1) h19 (c := u + 31 * ((n : Int) / 64)) (n := (n : Int)) (by omega) (by omega) (by omega) (by omega)
    obtain ⟨r2, p3, p4, q2⟩ := mixed_ok (k := k) (S := S1) h19 (c := r1) (n := (n : Int) + 7) p1 (by omega) (by omega) (by omega)
    have m1 : cMul 31 ((n : Int) / 64) = true := cMul_l (by decide) (by decide)
    have a1 : x2 oAdd (alt (x2 oIx (xV 3) (x2 oMod (x1 oInt (xV 2)) (xC (.int 64)))) (xGet (xV 3) (x2 oMod (x1 oInt (xV 2)) (xC (.int 64))))) (x2 oMul (xC (.int 31)) (x2 oFdiv (xV 2) (xC (.int 64)))) [some (.ref m), some (.int lim), some (.int (n : Nat)), some (.lst (l.map D.int)), y, z] S1 = .ok (.int (u + 31 * ((n : Int) / 64))) S1 := by
      rw [x2_of i1 (e := .int (31 * ((n : Int) / 64))) (S2 := S1)]
      · rfl
      · simp [x2, xC, xV, oFdiv, oI, cDiv, oMul, m1]
    refine ⟨r2 % lim, Int.emod_nonneg _ (by omega), Int.emod_lt_of_pos _ h0, ret_of ?_⟩
    have c1 := (xCall_of (cf := callN L.T (k + 1)) (f := 19) (np := 2) (aC_of a1 (aC_of (m := xV 2) rfl aN_of)) rfl).trans q1
    have c2 := (xCall_of (cf := callN L.T (k + 1)) (f := 19) (np := 2) (aC_of c1 (aC_of (m := x2 oAdd (xV 2) (xC (.int 7))) rfl aN_of)) rfl).trans q2
    have c3 := (x1_of (f := oInt) c2).trans (show oInt (rsv S1 (.int r2)) S1 = .ok (.int r2) S1 from rfl)
    have c4 := x2_of (f := oMod) c3 (n := xV 1) (e := .int lim) (S2 := S1) rfl
    refine Eq.trans c4 ?_
    simp [oMod, oI, cMod, h0]
  -- the middle part
  have nz : alt (x2 oIx (xV 0) (xC (.str "great"))) (xGet (xV 0) (xC (.str "great"))) [some (.ref m), some (.int lim), some (.int (n : Nat)), none, none, none] S1 = .ok (.ref g) S1 := get_key rfl rfl f1 val_great
  have tst : ∀ G : Gx, tE (cCmpX G .NotEq (alt (x2 oIx (xV 0) (xC (.str "great"))) (xGet (xV 0) (xC (.str "great")))) (xL oLstS aN)) [some (.ref m), some (.int lim), some (.int (n : Nat)), none, none, none] S1 = .ok (!decide (gr = [])) S1 := fun G => by
    refine tE_of ?_
    rw [cNe_of nz (e := .lst []) (S2 := S1) rfl (.inr rfl), rsv_ref f2]
    unfold oNe
    have : okd 64 (.lst (gr.map D.int)) = true := okd_ints
    rw [this, show okd 64 (rsv S1 (.lst [])) = true from rfl]
    have := deqs_ints (l := gr) (l' := [])
    show (Res.ok (D.bl (!deqs (gr.map D.int) [])) S1 : Res D) = _
    rw [show deqs (gr.map D.int) [] = decide (gr = []) from this]
  by_cases hgr : gr = []
  · obtain ⟨r, r0, r1, hr⟩ := last none none none
    refine ⟨r, S1, r0, r1, runB_ret rfl ?_, hD1, fr1⟩
    show c_law_draw _ (startD 6 [.ref m, .int lim]) S = _
    unfold c_law_draw
    rw [seq_next s1, seq_next s2, seq_next (if_f ((tst _).trans (by rw [decide_eq_true hgr]; rfl)) |>.trans rfl)]
    exact hr
  · have hpos : 0 < gr.length := List.length_pos_iff.mpr hgr
    have b0 : (0 : Int) ≤ (n : Int) % gr.length := Int.emod_nonneg _ (by omega)
    have b1 : ((n : Int) % gr.length) < gr.length := Int.emod_lt_of_pos _ (by omega)
    obtain ⟨u, hu, hat, _⟩ := atI_ints b0 b1
    have t1 := seq_next (n := cSeq (cSet 4 (x2 oMod (x1 oInt (xV 2)) (cLen (L.G (callN L.T (k + 1))) (xV 3))))
    (cSeq (cSet 5 (alt (x2 oIx (xV 3) (xV 4)) (xGet (xV 3) (xV 4))))
    (cIf (tE (x2 oGt (xV 5) (xC (.int 0))))
      (cSeq (alt (cPutD (xV 3) (xV 4) (x2 oFdiv (xV 5) (xV 1))) (cSetR (xV 3) (xV 4) (x2 oFdiv (xV 5) (xV 1))))
      (cRet (x2 oMod (x1 oInt (xV 5)) (xV 1))))
      cNil))) (set_of (i := 3) nz)
    have t2 : cSet 4 (x2 oMod (x1 oInt (xV 2)) (cLen (L.G (callN L.T (k + 1))) (xV 3))) [some (.ref m), some (.int lim), some (.int (n : Nat)), some (.ref g), none, none] S1 = .ok (.next [some (.ref m), some (.int lim), some (.int (n : Nat)), some (.ref g), some (.int ((n : Int) % gr.length)), none]) S1 := by
      refine (set_of (d := .int ((n : Int) % gr.length)) (S1 := S1) ?_).trans rfl
      rw [x2_of (d := .int n) (S1 := S1) rfl (cLen_ref rfl f2)]
      simp [oMod, oI, cMod, hpos]
    have t3 : cSet 5 (alt (x2 oIx (xV 3) (xV 4)) (xGet (xV 3) (xV 4))) [some (.ref m), some (.int lim), some (.int (n : Nat)), some (.ref g), some (.int ((n : Int) % gr.length)), none] S1 = .ok (.next [some (.ref m), some (.int lim), some (.int (n : Nat)), some (.ref g), some (.int ((n : Int) % gr.length)), some (.int u)]) S1 :=
      (set_of (ix_ref rfl rfl f2 b0 (by rw [List.getElem?_map, hat]; rfl))).trans rfl
    have t4 : tE (x2 oGt (xV 5) (xC (.int 0))) [some (.ref m), some (.int lim), some (.int (n : Nat)), some (.ref g), some (.int ((n : Int) % gr.length)), some (.int u)] S1 = .ok (decide (0 < u)) S1 := rfl
    by_cases hu0 : 0 < u
    · have t5 : alt (cPutD (xV 3) (xV 4) (x2 oFdiv (xV 5) (xV 1))) (cSetR (xV 3) (xV 4) (x2 oFdiv (xV 5) (xV 1))) [some (.ref m), some (.int lim), some (.int (n : Nat)), some (.ref g), some (.int ((n : Int) % gr.length)), some (.int u)] S1 = .ok (.next [some (.ref m), some (.int lim), some (.int (n : Nat)), some (.ref g), some (.int ((n : Int) % gr.length)), some (.int u)]) (S1.set g (.lst ((gr.map D.int).set ((n : Int) % gr.length).toNat (.int (u / lim))))) :=
        put_ix (by simp [x2, xV, oFdiv, oI, cDiv, h0, h1]) rfl rfl f2 b0 (by rw [List.length_map]; exact b1)
      have t6 : ∀ S2, cRet (x2 oMod (x1 oInt (xV 5)) (xV 1)) [some (.ref m), some (.int lim), some (.int (n : Nat)), some (.ref g), some (.int ((n : Int) % gr.length)), some (.int u)] S2 = .ok (.ret (.int (u % lim))) S2 := fun S2 => by
        simp [cRet, x2, x1, xV, oInt, oMod, oI, cMod, h0]
      have ltg1 := (List.getElem?_eq_some_iff.mp f2).1
      refine ⟨u % lim, S1.set g (.lst ((gr.map D.int).set ((n : Int) % gr.length).toNat (.int (u / lim)))), Int.emod_nonneg _ (by omega), Int.emod_lt_of_pos _ h0, runB_ret rfl ?_, ⟨⟨l, gr.set ((n : Int) % gr.length).toNat (u / lim), n + 1, ?_, ?_, cl, ?_, by omega, by rw [List.length_set]; exact hgl⟩, ne⟩, fr1.trans Fr.set_g⟩
      · show c_law_draw _ (startD 6 [.ref m, .int lim]) S = _
        unfold c_law_draw
        rw [seq_next s1, seq_next s2, seq_ret (if_t ((tst _).trans (by rw [decide_eq_false hgr]; rfl)) |>.trans (t1.trans ((seq_next t2).trans ((seq_next t3).trans ((if_t (t4.trans (by rw [decide_eq_true hu0]))).trans ((seq_next t5).trans (t6 _)))))))]
      · rw [List.getElem?_set_ne ne]; exact f1
      · rw [List.getElem?_set_self ltg1, List.map_set]
      · intro c hc
        rcases List.mem_or_eq_of_mem_set hc with h' | rfl
        · exact hg c h'
        · exact Int.ediv_nonneg (by omega) (by omega)
    · obtain ⟨r, r0, r1, hr⟩ := last (some (.ref g)) (some (.int ((n : Int) % gr.length))) (some (.int u))
      refine ⟨r, S1, r0, r1, runB_ret rfl ?_, hD1, fr1⟩
      show c_law_draw _ (startD 6 [.ref m, .int lim]) S = _
      unfold c_law_draw
      rw [seq_next s1, seq_next s2, seq_next (if_t ((tst _).trans (by rw [decide_eq_false hgr]; rfl)) |>.trans (t1.trans ((seq_next t2).trans ((seq_next t3).trans ((if_f (t4.trans (by rw [decide_eq_false hu0]))).trans rfl)))))]
      exact hr
end
end Qi
namespace Qi
open PySem PySem.Spec L2 PyProof.Rows
section
variable {L : LawD} {k : Nat} {S : Sto}
theorem begun_ok (h20 : L.T 20 = some (d_law_folded L)) (h22 : L.T 22 = some (d_law_begun L)) (ns : List Int) (hl : ns.length ≤ 63) : ∃ S', callN L.T (k + 2) 22 [.scr ns] S = .ok (.ref (S.length + 1)) S' ∧ Dr (S.length + 1) (S.length + 2) 0 S' ∧ S'.length = S.length + 3 ∧ ∀ i, i < S.length → S'[i]? = S[i]? := by
  rw [call_eq h22]
  obtain ⟨l, cl, hf⟩ := folded_ok (k := k) h20 ns S
  let gr : List Int := ns.map fun c => if (1000000000000000000 : Int) ≤ c then c else 0
  let S2 : Sto := S ++ [.lst []] ++ [.dic (drL l S.length 0)]
  have hS2 : S2.length = S.length + 2 := by simp [S2]
  have s1 : cSet 1 (xDisp [(.inr "cells", (xCall (L.G (callN L.T (k + 1))).cf 20 1 (aC (xV 0) aN))), (.inr "great", (xBox (xL oLstS aN))), (.inr "spot", (xC (.int 0)))]) (startD 3 [.scr ns]) S = .ok (.next [some (.scr ns), some (.ref (S.length + 1)), none]) S2 := by
    have c1 := (xCall_of (cf := callN L.T (k + 1)) (f := 20) (np := 1) (aC_of (m := xV 0) (σ := startD 3 [.scr ns]) (S := S) rfl aN_of) rfl).trans hf
    refine (set_of (d := .ref (S.length + 1)) (S1 := S2) ?_).trans rfl
    unfold xDisp
    have e : evP [(.inr "cells", (xCall (L.G (callN L.T (k + 1))).cf 20 1 (aC (xV 0) aN))), (.inr "great", (xBox (xL oLstS aN))), (.inr "spot", (xC (.int 0)))] (startD 3 [.scr ns]) S = .ok (drL l S.length 0) (S ++ [.lst []]) := by
      unfold evP
      rw [show xCall (L.G (callN L.T (k + 1))).cf 20 1 (aC (xV 0) aN) (startD 3 [.scr ns]) S = _ from c1]
      simp [evP, xBox, xL, aN, oLstS, szOk, xC, drL]
    rw [e, bind_ok]
    simp [S2]
  have e1 : S2[S.length + 1]? = some (.dic (drL l S.length 0)) := by simp [S2]
  have s2 : xLc (mIt (xV 0)) (.nm 2) tT (xI (tE (x2 oGe (xV 2) (x2 oPow (xC (.int 10)) (xC (.int 18))))) (xV 2) (xC (.int 0))) [2] [some (.scr ns), some (.ref (S.length + 1)), none] S2 = .ok (.lst (gr.map D.int)) S2 := by
    refine (xLc_of (mIt_scr rfl) (lcL_map (fun d => match d with | .int c => .int (if (1000000000000000000 : Int) ≤ c then c else 0) | d => d) _ ?_)).trans ?_
    · intro d hd
      obtain ⟨c, _, rfl⟩ := List.mem_map.mp hd
      refine ⟨_, rfl, ?_⟩
      by_cases hc : (1000000000000000000 : Int) ≤ c
      · rw [xI_t (S1 := S2) (by simp [tE, x2, xV, xC, oPow, oI, cPow, oGe, cAll, asB, wipeD, hc])]
        simp [xV, wipeD, hc]
      · rw [xI_f (S1 := S2) (by simp [tE, x2, xV, xC, oPow, oI, cPow, oGe, cAll, asB, wipeD, hc])]
        simp [xC, hc]
    · simp [gr]
  let S3 : Sto := S2 ++ [.lst (gr.map D.int)]
  have s3 : xBox (xLc (mIt (xV 0)) (.nm 2) tT (xI (tE (x2 oGe (xV 2) (x2 oPow (xC (.int 10)) (xC (.int 18))))) (xV 2) (xC (.int 0))) [2]) [some (.scr ns), some (.ref (S.length + 1)), none] S2 = .ok (.ref (S.length + 2)) S3 := by
    unfold xBox
    rw [s2, bind_ok]
    simp [S3, hS2]
  have e3 : S3[S.length + 1]? = some (.dic (drL l S.length 0)) := by
    show (S2 ++ _)[_]? = _
    rw [List.getElem?_append_left (by omega)]; exact e1
  have lt3 := (List.getElem?_eq_some_iff.mp e3).1
  have s4 := put_key (a := xV 1) (b := xC (.str "great")) (n := cSetR (xV 1) (xC (.str "great")) (xBox (xLc (mIt (xV 0)) (.nm 2) tT (xI (tE (x2 oGe (xV 2) (x2 oPow (xC (.int 10)) (xC (.int 18))))) (xV 2) (xC (.int 0))) [2]))) s3 rfl rfl e3 (by simp [drL])
  rw [put_great] at s4
  refine ⟨S3.set (S.length + 1) (.dic (drL l (S.length + 2) 0)), runB_ret rfl ?_, ⟨⟨l, gr, 0, ?_, ?_, cl, ?_, Nat.le_refl _, ?_⟩, by omega⟩, ?_, fun i hi => ?_⟩
  · show c_law_begun _ (startD 3 [.scr ns]) S = _
    unfold c_law_begun
    rw [seq_next s1]
    refine (seq_next s4).trans (ret_of rfl)
  · rw [List.getElem?_set_self lt3]; rfl
  · rw [List.getElem?_set_ne (by omega)]
    show (S2 ++ _)[_]? = _
    rw [List.getElem?_append_right (by omega), hS2]
    simp
  · intro c hc
    obtain ⟨c', _, rfl⟩ := List.mem_map.mp hc
    split <;> omega
  · simp [gr, hl]
  · rw [List.length_set]
    show (S2 ++ _).length = _
    simp [hS2]
  · rw [List.getElem?_set_ne (by omega)]
    show (S ++ _ ++ _ ++ _)[i]? = _
    rw [List.append_assoc, List.append_assoc, List.getElem?_append_left hi]
end
end Qi
namespace Qi
open PySem PySem.Spec L2 PyProof.Rows
theorem cut1 {α : Type} {x : α} {l : List α} : cutL (x :: l) (some 1) none = l := by
  unfold cutL
  have e1 : HT.sIx (x :: l).length 0 (some 1) = 1 := by
    rw [show (1 : Int) = ((1 : Nat) : Int) from rfl, HT.sIx_nat]
    simp only [List.length_cons]
    omega
  rw [e1, HT.sIx_none]
  simp
section
variable {L : LawD}
mutual
def Tm.size : Tm → Nat
  | .leaf _ => 1
  | .node _ l => Tm.sizeL l + 1
def Tm.sizeL : List Tm → Nat
  | [] => 0
  | t :: r => Tm.size t + Tm.sizeL r
end
section
variable {k : Nat} {S : Sto}
theorem getLast_app {α : Type} {l : List α} {x : α} : (l ++ [x]).getLast? = some x := by simp
theorem depth_nodes : ∀ t : Tm, t.depth ≤ t.nodes := by
  apply Tm.ind
  · intro i; simp [Tm.depth]
  · intro b l ih
    simp only [Tm.depth, Tm.nodes]
    have : ∀ l : List Tm, (∀ t ∈ l, t.depth ≤ t.nodes) → Tm.depthL l ≤ Tm.nodesL l := by
      intro l
      induction l with
      | nil => intro _; simp [Tm.depthL]
      | cons u r ih2 =>
        intro h
        have h1 := h u List.mem_cons_self
        have h2 := ih2 fun t ht => h t (List.mem_cons_of_mem _ ht)
        simp only [Tm.depthL, Tm.nodesL]; omega
    have := this l ih
    omega
/-- a good term of n tasks -/
structure Gt (n : Nat) (u : Tm) : Prop where
  wide : u.wide = true
  perm : u.tasks.Perm (upto n)
  le : n ≤ 12
theorem Gt.len {n : Nat} {u : Tm} (g : Gt n u) : u.tasks.length = n := by rw [g.perm.length_eq, upto_len]
theorem Gt.mem {n : Nat} {u : Tm} (g : Gt n u) {x : Int} : x ∈ u.tasks ↔ x ∈ upto n := g.perm.mem_iff
theorem Gt.pos {n : Nat} {u : Tm} (g : Gt n u) : 1 ≤ n := by have := Tm.tasks_pos u g.wide; rw [g.len] at this; exact this
theorem Gt.depth {n : Nat} {u : Tm} (g : Gt n u) : u.depth ≤ 11 := by
  have h1 := depth_nodes u
  have h2 := Tm.nodes_le u g.wide
  have := g.len; have := g.le
  omega
end
end
end Qi
namespace Qi
open PySem PySem.Spec L2 PyProof.Rows
inductive All2 {α β : Type} (Q : α → β → Prop) : List α → List β → Prop
  | nil : All2 Q [] []
  | cons {a : α} {b : β} {l : List α} {l' : List β} : Q a b → All2 Q l l' → All2 Q (a :: l) (b :: l')
theorem All2.len {α β : Type} {Q : α → β → Prop} {l : List α} {l' : List β} (h : All2 Q l l') : l'.length = l.length := by
  induction h with
  | nil => rfl
  | cons _ _ ih => simp [ih]
def DB0 : Nat := 549755813888
structure TbD (L : LawD) : Prop where
  h19 : L.T 19 = some (d_law_mixed L)
  h20 : L.T 20 = some (d_law_folded L)
  h21 : L.T 21 = some (d_law_draw L)
  h22 : L.T 22 = some (d_law_begun L)
section
variable {L : LawD} {k : Nat} {S : Sto} {m g b : Nat}
theorem TbD.draw (t : TbD L) (hD : Dr m g b S) (hb : b + 1 < DB0) {lim : Int} (h0 : 0 < lim) (h1 : lim < 1073741824) :
    ∃ (r : Int) (S' : Sto), 0 ≤ r ∧ r < lim ∧ callN L.T (k + 2) 21 [.ref m, .int lim] S = .ok (.int r) S' ∧ Dr m g (b + 1) S' ∧ Fr m g S S' := draw_ok t.h19 t.h21 hD (by unfold DB0 at hb; omega) h0 h1
end
end Qi
namespace Qi
open PySem PySem.Spec L2 PyProof.Rows
mutual
def sm : D → Bool
  | .int i => decide (i.natAbs < 10 ^ 500)
  | .str x => PyData.strOk (reprText x)
  | .tup l => sms l
  | .lst l => sms l
  | _ => true
def sms : List D → Bool
  | [] => true
  | d :: r => sm d && sms r
end
end Qi
namespace Qi
open PySem PySem.Spec L2 PyProof.Rows
theorem Dr.app {m g b : Nat} {S more : Sto} (h : Dr m g b S) : Dr m g b (S ++ more) := by
  obtain ⟨⟨l, gr, n, h1, h2, h3⟩, ne⟩ := h
  have a1 := (List.getElem?_eq_some_iff.mp h1).1
  have a2 := (List.getElem?_eq_some_iff.mp h2).1
  exact ⟨⟨l, gr, n, by rw [List.getElem?_append_left a1]; exact h1, by rw [List.getElem?_append_left a2]; exact h2, h3⟩, ne⟩
section
variable {L : LawD} {S : Sto} {m g b : Nat}
theorem Gt.turned {n : Nat} {u : Tm} (h : Gt n u) : Gt n u.turned := ⟨Tm.turned_wide u h.wide, (Tm.turned_tasks u).trans h.perm, h.le⟩
end
end Qi
namespace Qi
open PySem PySem.Spec L2 PyProof.Rows
local macro_rules | `(tactic| bv_omega) => `(tactic| simp (decide := true) only [xC_e, xV_e, xVB_e, xVF_e, xVL_e, aN_e, tT_e, cNil_e, cBrk_e, cFrz_e, frzS_e, pN_e, xEmp_e, cRaise0_e, x1_e, kx1_ok, kx1_exc, kx1_st, kx2r_ok, kx2r_exc, kx2r_st, x2_e, kx2_ok, kx2_exc, kx2_st, xL_e, kxL_ok, kxL_exc, kxL_st, kaCr_ok, kaCr_exc, kaCr_st, aC_e, kaC_ok, kaC_exc, kaC_st, tE_e, ktE_ok, ktE_exc, ktE_st, tN_e, ktN_ok, ktN_exc, ktN_st, tA_e, ktA_ok, ktA_exc, ktA_st, tO_e, ktO_ok, ktO_exc, ktO_st, xA_e, kxA_ok, kxA_exc, kxA_st, xO_e, kxO_ok, kxO_exc, kxO_st, xN_e, kxN_ok, kxN_exc, kxN_st, xI_e, kxI_ok, kxI_exc, kxI_st, cSeq_e, kcSeq_ok, kcSeq_exc, kcSeq_st, cRet_e, kcRet_ok, kcRet_exc, kcRet_st, cExp_e, kcExp_ok, kcExp_exc, kcExp_st, cIf_e, kcIf_ok, kcIf_exc, kcIf_st, cSet_e, kcSet_ok, kcSet_exc, kcSet_st, cSetL_e, kcSetL_ok, kcSetL_exc, kcSetL_st, toL_e, ktoL_ok, ktoL_exc, ktoL_st, xCall_e, kxCall_ok, kxCall_exc, kxCall_st, xMake_e, kxMake_ok, kxMake_exc, kxMake_st, xFld_e, kxFld_ok, kxFld_exc, kxFld_st, kxLcr_ok, kxLcr_exc, kxLcr_st, xLc_e, kxLc_ok, kxLc_exc, kxLc_st, cFor_e, kcFor_ok, kcFor_exc, kcFor_st, cPar_e, kcPar_ok, kcPar_exc, kcPar_st, cAsg_e, kcAsg_ok, kcAsg_exc, kcAsg_st, kaFr_ok, kaFr_exc, kaFr_st, aF_e, kaF_ok, kaF_exc, kaF_st, mIt_e, kmIt_ok, kmIt_exc, kmIt_st, mEnum_e, kmEnum_ok, kmEnum_exc, kmEnum_st, kxSl2_ok, kxSl2_exc, kxSl2_st, kxSl1_ok, kxSl1_exc, kxSl1_st, xSl_e, kxSl_ok, kxSl_exc, kxSl_st, pS_e, kpS_ok, kpS_exc, kpS_st, xIsE_e, kxIsE_ok, kxIsE_exc, kxIsE_st, xFldE_e, kxFldE_ok, kxFldE_exc, kxFldE_st, cRaise1_e, kcRaise1_ok, kcRaise1_exc, kcRaise1_st, mZip_e, kmZip_ok, kmZip_exc, kmZip_st, xProp_e, kProp_obj, oFld0_ord, oFld1_ord, oIsO_ord, kxProp_exc, kxProp_st, xIsO_e, kxIsO_ok, kxIsO_exc, kxIsO_st, kxCh3_ok, kxCh2_t, kxCh2_f, kxCh1_ok, kxCh_ok, xCh_e, xHeard_e, hres_ok, hres_exc, kLen_ok, kLen_exc, kLen_st, cLen_e, lenG_lst, lenG_tup, kEq_ok, kEq_exc, kEq_st, kEq2_ok, kEq2_exc, kEq2_st, cEq_e, cNe_e, ext_e, kExt_l, kExt_t, pop_e, aug_e, kAug_ok, oLt_e, oLe_e, oGt_e, oGe_e, oSlT_e, oSlL_e, oTuL_e, oTuT_e, oLiT_e, oLiL_e, cut1, getLast_app, List.dropLast_concat, lcL_nil, lcL_cons, klc1_t, klc1_f, klc2_ok, klc3_ok, ofS_eq, deq_lit, deq_sn, deq_ns, deq_st, deq_ts, deq_tt, deq_ll, deq_lt, deq_tl, deq_bb, deq_it, deqs_nil, deqs_cons, deqs_cn, deqs_nc, okd_lit, okd_int, okd_bl, okd_non, okd_tup64, okd_lst64, okd_tup63, okd_lst63, eqG_lit, neG_lit, oInT_e, oInL_e, oNiT_e, oNiL_e, finR_ret, finR_next, finR_exc, startD_e, List.map_cons, List.map_nil, List.replicate_succ, List.replicate_zero, Nat.reduceSub, zpL, eqG_int, neG_int, tabF_cons, oLstS_e, oTupS_e, szOk_s, oIsE_e, oIsN_e, oNotN_e, oIsN_b, oNotN_b, oIsT_e, isT_non, isT_bl, isT_int, isT_str, isT_tup, isT_lst, isT_dic, oAdd_i, oAdd_l, oAdd_t, oSub_i, asB_e, asI_e, oNeg_e, alt_e, kAlt_ok, kAlt_exc, kAlt_st, xMeth_e, kMeth_ord, kMeth2_ok, kMeth2_exc, rsv_ord, kProp_ord, kFld0_ord, kFld1_ord, kIsO_ord, lenG_ordB, rsv_ordB, xEqX_e, kEqX_ok, kEqX2_ok, eqN_ok, eqG_bl, neG_bl, setO_n, setO_s, any_ints, oRev_l, oIx_tup, oIx_lst, atI_0, atI_1, atI_2, atI_3, app_e, kApp_ok, oFldE_e, rsv_non, rsv_bl, rsv_int, rsv_str, rsv_tup, rsv_lst, rsv_obj, rsv_scr, rsv_exc, rsv_dic, G_cf, nox_ok, nox_exc, nox_stuck, ↓reduceIte, Bool.false_eq_true, Bool.not_true, Bool.not_false, Bool.or_true, Bool.or_false, Bool.true_or, Bool.false_or, Bool.and_true, Bool.and_false, Bool.true_and, Bool.false_and, Option.map_some, Option.map_none, List.getElem?_cons_zero, List.getElem?_cons_succ, List.getElem?_nil, List.set_cons_zero, List.set_cons_succ, List.length_cons, List.length_nil, List.length_append, List.cons_append, List.nil_append, Nat.zero_add, Nat.reduceAdd, Nat.reduceEqDiff, Int.reduceAdd, Int.reduceEq, Int.reduceLE, Int.reduceLT, Int.reduceNeg, Int.cast_ofNat_Int, natc1, natc0, excField, Option.some.injEq, excF_eq, decide_true, decide_false, isNon, setsD, asgD, wipeD, forL_nil, bind_ok, bind_exc, bind_stuck, List.all_cons, List.all_nil, List.any_cons, List.any_nil, String.reduceEq, and_self, and_true, true_and, reduceBEq, reduceCtorEq, *])
def drE (cf : Cf) (n : Int) : Ex := xCall cf 21 2 (aC (xV 1) (aC (xC (.int n)) aN))
def pick (cf : Cf) (a : Ex) (n : Int) : Ex := alt (x2 oIx a (drE cf n)) (xGet a (drE cf n))
theorem pick_ok {L : LawD} {k : Nat} (t : TbD L) {a : Ex} {l : List D} {σ : Sl} {S0 S : Sto} {b : Nat} {n : Int} (ha : a σ S0 = .ok (.lst l) S) (hv : xV 1 σ S = .ok (.ref 1) S) (hD : Dr 1 2 b S) (hb : b + 1 < DB0) (hn : (l.length : Int) = n) (h0 : 0 < n) (h1 : n < 1073741824) :
    ∃ d, d ∈ l ∧ ∃ S', pick (callN L.T (k + 2)) a n σ S0 = .ok d S' ∧ Dr 1 2 (b + 1) S' ∧ Fr 1 2 S S' := by
  obtain ⟨r, S1, r0, r1, e1, hD1, f1⟩ := t.draw (k := k) hD hb h0 h1
  have c1 := (xCall_of (cf := callN L.T (k + 2)) (f := 21) (np := 2) (aC_of hv (aC_of (m := xC (.int n)) rfl aN_of)) rfl).trans e1
  have hlt : r.toNat < l.length := by omega
  exact ⟨l[r.toNat], List.getElem_mem hlt, S1, ix_lst ha c1 r0 (List.getElem?_eq_getElem hlt), hD1, f1⟩
theorem len3 {S : Sto} (h : S.length = 3) : ∃ a b c, S = [a, b, c] := by
  match S, h with
  | [a, b, c], _ => exact ⟨a, b, c, rfl⟩
theorem fr3 {a b c : Cell} {m S : Sto} (f : Fr 1 2 (a :: b :: c :: m) S) : ∃ b' c', S = a :: b' :: c' :: m := by
  have hl := f.len
  match S, hl with
  | x :: y :: z :: t, _ =>
    have h0 := f.at_ 0 (by decide) (by decide)
    simp at h0
    subst h0
    have ht : t = m := List.ext_getElem? fun i => by
      have := f.at_ (i + 3) (by omega) (by omega)
      simpa using this
    subst ht
    exact ⟨y, z, rfl⟩
def runS : List Co → Sl → Sto → Option (Sl × Sto)
  | [], σ, S => some (σ, S)
  | m :: r, σ, S => match m σ S with
    | .ok (.next σ1) S1 => runS r σ1 S1
    | _ => none
def seqS : List Co → Co → Co
  | [], n => n
  | m :: r, n => cSeq m (seqS r n)
theorem runS_of {n : Co} : ∀ {l : List Co} {σ σ1 : Sl} {S S1 : Sto}, runS l σ S = some (σ1, S1) → seqS l n σ S = n σ1 S1
  | [], σ, σ1, S, S1, h => by
    simp only [runS, Option.some.injEq, Prod.mk.injEq] at h
    rw [h.1, h.2]; rfl
  | m :: r, σ, σ1, S, S1, h => by
    unfold runS at h
    split at h
    · rename_i σ2 S2 e
      exact (seq_next e).trans (runS_of h)
    · cases h
end Qi
namespace Qi
open PySem PySem.Spec L2 PyProof.Rows
namespace Dk78
theorem tD : TbD L := ⟨t_law_mixed, t_law_folded, t_law_draw, t_law_begun⟩
abbrev F : Cf := callN L.T 31
def qs : List D := [.non, .int 0, .int 7, .tup [.int 1, .int 2], .str "x", .lst [.int 3], .dic [], .int 10000000000000000000000000000000000000000]
def eQ : Ex := (xL oLstS (aC (xC .non) (aC (xC (.int 0)) (aC (xC (.int 7)) (aC (xL oTupS (aC (xC (.int 1)) (aC (xC (.int 2)) aN))) (aC (xC (.str "x")) (aC (xL oLstS (aC (xC (.int 3)) aN)) (aC xEmp (aC (x2 oPow (xC (.int 10)) (xC (.int 40))) aN)))))))))
def mid : List Co := [(cSet 3 (xL oLstS (aC (xExc1 21 (xV 2)) (aC (xExc1 24 (xV 2)) (aC (xExc1 28 (xV 2)) (aC (xExc1 30 (xV 2)) (aC (xExc1 22 (xV 2)) (aC (xExc1 23 (xV 2)) (aC (xExc1 29 (xV 2)) (aC (xExc1 25 (xV 2)) aN)))))))))),
  (cSet 3 (x2 oAdd (xV 3) (xL oLstS (aC (xExc1 27 (xV 2)) (aC (xExc1 32 (xV 2)) (aC (xExc0 26) (aC (xExc0 31) aN))))))),
  (cSet 4 (xL oLstS (aC (xC (.str "BadPairs")) (aC (xC (.str "BadExchange")) (aC (xC (.str "BadRun")) (aC (xC (.str "BadText")) (aC (xC (.str "BadTerm")) (aC (xC (.str "BadNumber")) (aC (xC (.str "BadRuns")) (aC (xC (.str "NoTerm")) (aC (xC (.str "Lacks")) aN))))))))))),
  (cSet 4 (x2 oAdd (xV 4) (xL oLstS (aC (xC (.str "TooGreat")) (aC (xC (.str "OtherTasks")) (aC (xC (.str "NothingLeft")) aN)))))),
  (cFor (mRg1 (xC (.int 12))) (.nm 5) (c_law_v31_b1 (L.G F))),
  (cSet 6 (xL oLstS (aC (xFldE (L.G F).exB "place" (xExc1 28 (xV 2))) (aC (xFldE (L.G F).exB "place" (xExc1 30 (xV 2))) (aC (xFldE (L.G F).exB "value" (xExc1 29 (xV 2))) aN))))),
  (cIf (tE (cCmpX (L.G F) .NotEq (x1 oRepr (xV 6)) (x1 oRepr (x2 oMul (xL oLstS (aC (xV 2) aN)) (xC (.int 3))))))
    (cRet (xC (.bl false)))
    cNil),
  (cSet 7 (xMake (L.G F).cf 15 2 (aC (xC (.int 2)) (aC (xL oLstS (aC (xL oTupS (aC (xC (.int 0)) (aC (xC (.int 1)) aN))) aN)) aN))))]
def eD : Ex := (xL oLstS (aC (xC .non) (aC (xL oTupS (aC (xL oTupS (aC (xC (.int 0)) (aC (xC (.int 1)) aN))) aN)) (aC (xL oLstS (aC (xL oTupS (aC (xC (.int 0)) (aC (xC (.int 1)) aN))) aN)) (aC (xC (.int 5)) (aC (xC (.str "order")) (aC xEmp (aC (xV 2) aN))))))))
def fin : List Co := [(cSet 6 (xL oLstS (aC (alt (cCmpX (L.G F) .Eq (xV 7) (xV 8)) (cEqZ (L.G F) .Eq (xV 7) (xV 8))) (aC (alt (cCmpX (L.G F) .Eq (xV 8) (xV 7)) (cEqZ (L.G F) .Eq (xV 8) (xV 7))) (aC (alt (cCmpX (L.G F) .NotEq (xV 7) (xMake (L.G F).cf 15 2 (aC (xC (.int 2)) (aC (xL oTupS (aC (xL oTupS (aC (xC (.int 0)) (aC (xC (.int 1)) aN))) aN)) aN)))) (cEqZ (L.G F) .NotEq (xV 7) (xMake (L.G F).cf 15 2 (aC (xC (.int 2)) (aC (xL oTupS (aC (xL oTupS (aC (xC (.int 0)) (aC (xC (.int 1)) aN))) aN)) aN))))) (aC (alt (cCmpX (L.G F) .NotEq (xV 7) (xV 8)) (cEqZ (L.G F) .NotEq (xV 7) (xV 8))) aN))))))]
def eR : Ex := (alt (cCmpX (L.G F) .Eq (x1 oRepr (xV 6)) (x1 oRepr (xL oLstS (aC (xC (.bl false)) (aC (xC (.bl false)) (aC (xC (.bl false)) (aC (xC (.bl true)) aN))))))) (cEqZ (L.G F) .Eq (x1 oRepr (xV 6)) (x1 oRepr (xL oLstS (aC (xC (.bl false)) (aC (xC (.bl false)) (aC (xC (.bl false)) (aC (xC (.bl true)) aN))))))))
theorem code : c_law_v31 (L.G F) = cSeq (cSet 1 (xCall F 22 1 (aC (xV 0) aN))) (cSeq (cSet 2 (pick F eQ 8)) (seqS mid (cSeq (cSet 8 (pick F eD 7)) (seqS fin (cRet eR))))) := rfl
def d0 : Cell := .lst []
/-- the slots and what stands in the store behind the first part, at q -/
def mv (q : D) : Sl × Sto := match runS mid [none, none, some q, none, none, none, none, none, none, none] [d0, d0, d0] with
  | some (σ, S) => (σ.drop 3, S.drop 3)
  | none => ([], [])
theorem middle0 (x y : Option D) (a b c : Cell) : runS mid [x, y, some (.non : D), none, none, none, none, none, none, none] [a, b, c] = some (x :: y :: some (.non : D) :: (mv (.non : D)).1, a :: b :: c :: (mv (.non : D)).2) := by
  kernel_rfl
theorem middle1 (x y : Option D) (a b c : Cell) : runS mid [x, y, some (.int 0 : D), none, none, none, none, none, none, none] [a, b, c] = some (x :: y :: some (.int 0 : D) :: (mv (.int 0 : D)).1, a :: b :: c :: (mv (.int 0 : D)).2) := by
  kernel_rfl
theorem middle2 (x y : Option D) (a b c : Cell) : runS mid [x, y, some (.int 7 : D), none, none, none, none, none, none, none] [a, b, c] = some (x :: y :: some (.int 7 : D) :: (mv (.int 7 : D)).1, a :: b :: c :: (mv (.int 7 : D)).2) := by
  kernel_rfl
theorem middle3 (x y : Option D) (a b c : Cell) : runS mid [x, y, some (.tup [.int 1, .int 2] : D), none, none, none, none, none, none, none] [a, b, c] = some (x :: y :: some (.tup [.int 1, .int 2] : D) :: (mv (.tup [.int 1, .int 2] : D)).1, a :: b :: c :: (mv (.tup [.int 1, .int 2] : D)).2) := by
  kernel_rfl
theorem middle4 (x y : Option D) (a b c : Cell) : runS mid [x, y, some (.str "x" : D), none, none, none, none, none, none, none] [a, b, c] = some (x :: y :: some (.str "x" : D) :: (mv (.str "x" : D)).1, a :: b :: c :: (mv (.str "x" : D)).2) := by
  kernel_rfl
theorem middle5 (x y : Option D) (a b c : Cell) : runS mid [x, y, some (.lst [.int 3] : D), none, none, none, none, none, none, none] [a, b, c] = some (x :: y :: some (.lst [.int 3] : D) :: (mv (.lst [.int 3] : D)).1, a :: b :: c :: (mv (.lst [.int 3] : D)).2) := by
  kernel_rfl
theorem middle6 (x y : Option D) (a b c : Cell) : runS mid [x, y, some (.dic [] : D), none, none, none, none, none, none, none] [a, b, c] = some (x :: y :: some (.dic [] : D) :: (mv (.dic [] : D)).1, a :: b :: c :: (mv (.dic [] : D)).2) := by
  kernel_rfl
theorem middle7 (x y : Option D) (a b c : Cell) : runS mid [x, y, some (.int 10000000000000000000000000000000000000000 : D), none, none, none, none, none, none, none] [a, b, c] = some (x :: y :: some (.int 10000000000000000000000000000000000000000 : D) :: (mv (.int 10000000000000000000000000000000000000000 : D)).1, a :: b :: c :: (mv (.int 10000000000000000000000000000000000000000 : D)).2) := by
  kernel_rfl
theorem middle : ∀ q ∈ qs, ∀ (x y : Option D) (a b c : Cell), runS mid [x, y, some q, none, none, none, none, none, none, none] [a, b, c] = some (x :: y :: some q :: (mv q).1, a :: b :: c :: (mv q).2) := by
  intro q hq x y a b c
  simp only [qs, List.mem_cons, List.not_mem_nil, or_false] at hq
  rcases hq with rfl | rfl | rfl | rfl | rfl | rfl | rfl | rfl
  · exact middle0 x y a b c
  · exact middle1 x y a b c
  · exact middle2 x y a b c
  · exact middle3 x y a b c
  · exact middle4 x y a b c
  · exact middle5 x y a b c
  · exact middle6 x y a b c
  · exact middle7 x y a b c
def od (q : D) : List D × Sto := match eD (none :: none :: some q :: (mv q).1) (d0 :: d0 :: d0 :: (mv q).2) with
  | .ok (.lst l) S => (l, S.drop 3)
  | _ => ([], [])
theorem odd0 (x y : Option D) (a b c : Cell) : eD (x :: y :: some (.non : D) :: (mv (.non : D)).1) (a :: b :: c :: (mv (.non : D)).2) = .ok (.lst (od (.non : D)).1) (a :: b :: c :: (od (.non : D)).2) := by
  kernel_rfl
theorem odd1 (x y : Option D) (a b c : Cell) : eD (x :: y :: some (.int 0 : D) :: (mv (.int 0 : D)).1) (a :: b :: c :: (mv (.int 0 : D)).2) = .ok (.lst (od (.int 0 : D)).1) (a :: b :: c :: (od (.int 0 : D)).2) := by
  kernel_rfl
theorem odd2 (x y : Option D) (a b c : Cell) : eD (x :: y :: some (.int 7 : D) :: (mv (.int 7 : D)).1) (a :: b :: c :: (mv (.int 7 : D)).2) = .ok (.lst (od (.int 7 : D)).1) (a :: b :: c :: (od (.int 7 : D)).2) := by
  kernel_rfl
theorem odd3 (x y : Option D) (a b c : Cell) : eD (x :: y :: some (.tup [.int 1, .int 2] : D) :: (mv (.tup [.int 1, .int 2] : D)).1) (a :: b :: c :: (mv (.tup [.int 1, .int 2] : D)).2) = .ok (.lst (od (.tup [.int 1, .int 2] : D)).1) (a :: b :: c :: (od (.tup [.int 1, .int 2] : D)).2) := by
  kernel_rfl
theorem odd4 (x y : Option D) (a b c : Cell) : eD (x :: y :: some (.str "x" : D) :: (mv (.str "x" : D)).1) (a :: b :: c :: (mv (.str "x" : D)).2) = .ok (.lst (od (.str "x" : D)).1) (a :: b :: c :: (od (.str "x" : D)).2) := by
  kernel_rfl
theorem odd5 (x y : Option D) (a b c : Cell) : eD (x :: y :: some (.lst [.int 3] : D) :: (mv (.lst [.int 3] : D)).1) (a :: b :: c :: (mv (.lst [.int 3] : D)).2) = .ok (.lst (od (.lst [.int 3] : D)).1) (a :: b :: c :: (od (.lst [.int 3] : D)).2) := by
  kernel_rfl
theorem odd6 (x y : Option D) (a b c : Cell) : eD (x :: y :: some (.dic [] : D) :: (mv (.dic [] : D)).1) (a :: b :: c :: (mv (.dic [] : D)).2) = .ok (.lst (od (.dic [] : D)).1) (a :: b :: c :: (od (.dic [] : D)).2) := by
  kernel_rfl
theorem odd7 (x y : Option D) (a b c : Cell) : eD (x :: y :: some (.int 10000000000000000000000000000000000000000 : D) :: (mv (.int 10000000000000000000000000000000000000000 : D)).1) (a :: b :: c :: (mv (.int 10000000000000000000000000000000000000000 : D)).2) = .ok (.lst (od (.int 10000000000000000000000000000000000000000 : D)).1) (a :: b :: c :: (od (.int 10000000000000000000000000000000000000000 : D)).2) := by
  kernel_rfl
theorem odd : ∀ q ∈ qs, ∀ (x y : Option D) (a b c : Cell), eD (x :: y :: some q :: (mv q).1) (a :: b :: c :: (mv q).2) = .ok (.lst (od q).1) (a :: b :: c :: (od q).2) := by
  intro q hq x y a b c
  simp only [qs, List.mem_cons, List.not_mem_nil, or_false] at hq
  rcases hq with rfl | rfl | rfl | rfl | rfl | rfl | rfl | rfl
  · exact odd0 x y a b c
  · exact odd1 x y a b c
  · exact odd2 x y a b c
  · exact odd3 x y a b c
  · exact odd4 x y a b c
  · exact odd5 x y a b c
  · exact odd6 x y a b c
  · exact odd7 x y a b c
theorem olen0 : (od (.non : D)).1.length = 7 := by
  kernel_rfl
theorem olen1 : (od (.int 0 : D)).1.length = 7 := by
  kernel_rfl
theorem olen2 : (od (.int 7 : D)).1.length = 7 := by
  kernel_rfl
theorem olen3 : (od (.tup [.int 1, .int 2] : D)).1.length = 7 := by
  kernel_rfl
theorem olen4 : (od (.str "x" : D)).1.length = 7 := by
  kernel_rfl
theorem olen5 : (od (.lst [.int 3] : D)).1.length = 7 := by
  kernel_rfl
theorem olen6 : (od (.dic [] : D)).1.length = 7 := by
  kernel_rfl
theorem olen7 : (od (.int 10000000000000000000000000000000000000000 : D)).1.length = 7 := by
  kernel_rfl
theorem olen : ∀ q ∈ qs, (od q).1.length = 7 := by
  intro q hq
  simp only [qs, List.mem_cons, List.not_mem_nil, or_false] at hq
  rcases hq with rfl | rfl | rfl | rfl | rfl | rfl | rfl | rfl
  · exact olen0
  · exact olen1
  · exact olen2
  · exact olen3
  · exact olen4
  · exact olen5
  · exact olen6
  · exact olen7
def isRt : Res Fl → Bool
  | .ok (.ret (.bl b)) _ => b
  | _ => false
theorem isRt_of {r : Res Fl} (h : isRt r = true) : ∃ S, r = .ok (.ret (.bl true)) S := by
  unfold isRt at h
  split at h
  · subst h; exact ⟨_, rfl⟩
  · cases h
theorem last0 (x y : Option D) (a b c : Cell) : ((od (.non : D)).1.all fun o => isRt (seqS fin (cRet eR) ((x :: y :: some (.non : D) :: (mv (.non : D)).1).set 8 (some o)) (a :: b :: c :: (od (.non : D)).2))) = true := by
  kernel_rfl
theorem last1 (x y : Option D) (a b c : Cell) : ((od (.int 0 : D)).1.all fun o => isRt (seqS fin (cRet eR) ((x :: y :: some (.int 0 : D) :: (mv (.int 0 : D)).1).set 8 (some o)) (a :: b :: c :: (od (.int 0 : D)).2))) = true := by
  kernel_rfl
theorem last2 (x y : Option D) (a b c : Cell) : ((od (.int 7 : D)).1.all fun o => isRt (seqS fin (cRet eR) ((x :: y :: some (.int 7 : D) :: (mv (.int 7 : D)).1).set 8 (some o)) (a :: b :: c :: (od (.int 7 : D)).2))) = true := by
  kernel_rfl
theorem last3 (x y : Option D) (a b c : Cell) : ((od (.tup [.int 1, .int 2] : D)).1.all fun o => isRt (seqS fin (cRet eR) ((x :: y :: some (.tup [.int 1, .int 2] : D) :: (mv (.tup [.int 1, .int 2] : D)).1).set 8 (some o)) (a :: b :: c :: (od (.tup [.int 1, .int 2] : D)).2))) = true := by
  kernel_rfl
theorem last4 (x y : Option D) (a b c : Cell) : ((od (.str "x" : D)).1.all fun o => isRt (seqS fin (cRet eR) ((x :: y :: some (.str "x" : D) :: (mv (.str "x" : D)).1).set 8 (some o)) (a :: b :: c :: (od (.str "x" : D)).2))) = true := by
  kernel_rfl
theorem last5 (x y : Option D) (a b c : Cell) : ((od (.lst [.int 3] : D)).1.all fun o => isRt (seqS fin (cRet eR) ((x :: y :: some (.lst [.int 3] : D) :: (mv (.lst [.int 3] : D)).1).set 8 (some o)) (a :: b :: c :: (od (.lst [.int 3] : D)).2))) = true := by
  kernel_rfl
theorem last6 (x y : Option D) (a b c : Cell) : ((od (.dic [] : D)).1.all fun o => isRt (seqS fin (cRet eR) ((x :: y :: some (.dic [] : D) :: (mv (.dic [] : D)).1).set 8 (some o)) (a :: b :: c :: (od (.dic [] : D)).2))) = true := by
  kernel_rfl
theorem last7 (x y : Option D) (a b c : Cell) : ((od (.int 10000000000000000000000000000000000000000 : D)).1.all fun o => isRt (seqS fin (cRet eR) ((x :: y :: some (.int 10000000000000000000000000000000000000000 : D) :: (mv (.int 10000000000000000000000000000000000000000 : D)).1).set 8 (some o)) (a :: b :: c :: (od (.int 10000000000000000000000000000000000000000 : D)).2))) = true := by
  kernel_rfl
theorem last : ∀ q ∈ qs, ∀ (x y : Option D) (a b c : Cell), ((od q).1.all fun o => isRt (seqS fin (cRet eR) ((x :: y :: some q :: (mv q).1).set 8 (some o)) (a :: b :: c :: (od q).2))) = true := by
  intro q hq x y a b c
  simp only [qs, List.mem_cons, List.not_mem_nil, or_false] at hq
  rcases hq with rfl | rfl | rfl | rfl | rfl | rfl | rfl | rfl
  · exact last0 x y a b c
  · exact last1 x y a b c
  · exact last2 x y a b c
  · exact last3 x y a b c
  · exact last4 x y a b c
  · exact last5 x y a b c
  · exact last6 x y a b c
  · exact last7 x y a b c
theorem law_ok (ns : List Int) (h : ns.length ≤ 63) (_ : ∀ z ∈ ns, PySem.Builtin.Int.intBits z ≤ 1048576) : ∃ S', callN L.T 32 250 [.scr ns] [] = .ok (.bl true) S' := by
  rw [call_eq t_law_v31]
  obtain ⟨S1, e0, hD0, l0, _⟩ := begun_ok (k := 29) tD.h20 tD.h22 ns h (S := [])
  have s1 := set_of (i := 1) ((xCall_of (cf := F) (f := 22) (np := 1) (aC_of (m := xV 0) (σ := [some (.scr ns), none, none, none, none, none, none, none, none, none]) (S := []) rfl aN_of) rfl).trans e0)
  obtain ⟨q, hq, S2, c2, hD2, f2⟩ := pick_ok (k := 29) tD (a := eQ) (l := qs) (σ := [some (.scr ns), some (.ref 1), none, none, none, none, none, none, none, none]) (S0 := S1) (S := S1) (n := 8) (by kernel_rfl) rfl hD0 (by decide) rfl (by decide) (by decide)
  have s2 := set_of (i := 2) c2
  obtain ⟨a, b, c, rfl⟩ := len3 (S := S2) (by rw [f2.len, l0]; rfl)
  have s3 := middle q hq (some (.scr ns)) (some (.ref 1)) a b c
  have hD3 : Dr 1 2 1 (a :: b :: c :: (od q).2) := hD2.app (more := (od q).2)
  obtain ⟨o, ho, S4, c4, hD4, f4⟩ := pick_ok (k := 29) tD (a := eD) (l := (od q).1) (σ := some (.scr ns) :: some (.ref 1) :: some q :: (mv q).1) (S := a :: b :: c :: (od q).2) (n := 7) (odd q hq _ _ a b c) rfl hD3 (by decide) (by rw [olen q hq]; rfl) (by decide) (by decide)
  obtain ⟨b', c', rfl⟩ := fr3 f4
  have s4 := set_of (i := 8) c4
  obtain ⟨S5, e5⟩ := isRt_of (List.all_eq_true.mp (last q hq (some (.scr ns)) (some (.ref 1)) a b' c') o ho)
  refine ⟨S5, runB_ret rfl ?_⟩
  show c_law_v31 (L.G F) [some (.scr ns), none, none, none, none, none, none, none, none, none] [] = _
  rw [code]
  exact (seq_next s1).trans ((seq_next s2).trans ((runS_of s3).trans ((seq_next s4).trans e5)))
end Dk78
end Qi
set_option maxHeartbeats 0 in
open PySem PySem.W PySem.Calls PyProof.Rows in
theorem PySem.Challenge.cw_behindbeside_k78_exceptions_of_both_part_holds : PySem.Challenge.rw_behindbeside_k78_exceptions_of_both_part.Holds := by
  w_on; o_law
  refine HandSHeadRun.head_any (r := OpenLaw.row PySem.Challenge.rw_behindbeside_k78_exceptions_of_both_part) (q := view (OpenLaw.row PySem.Challenge.rw_behindbeside_k78_exceptions_of_both_part).prog [29]) (H := Qi.Dk78.hk) (ob := Qi.Dk78.ob) (M := 20000) (loose := Qi.Dk78.loose) (d := HandSHeadRun.topDef (OpenLaw.row PySem.Challenge.rw_behindbeside_k78_exceptions_of_both_part).prog 29) (kwd := []) Qi.Dk78.ob_eq
    (by kernel_rfl) (fun s => by kernel_rfl) Qi.Dk78.run (by kernel_rfl) (by kernel_rfl) (by kernel_rfl) (by rfl) (by first | assumption | decide +kernel) (by decide +kernel) ⟨rfl, rfl, rfl, rfl, rfl, by decide +kernel⟩ ?hw ?hc
  case hw => w_witness2
  case hc => exact Qi.walk_Q (l := PySem.Challenge.rw_behindbeside_k78_exceptions_of_both_part) (L := Qi.Dk78.L) (n := 63) (k := 32) (s := Qi.Dk78.s_law_v31) (x := "script") (by kernel_rfl) (by kernel_rfl) rfl (by decide) (by kernel_rfl) ⟨rfl, by decide, by decide⟩ Qi.Dk78.fit Qi.Dk78.binds (by unfold Qi.Dk78.L Qi.Dk78.fs; simp) (by kernel_rfl) rfl rfl rfl (fun ns h hb => Qi.Dk78.law_ok ns h hb)
