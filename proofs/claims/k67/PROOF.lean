import PyProof.Rows.All
import Wide.All
import OpenK.AllK
import Wide.FinOn
import HandS.ForMost
import HandS.Evl
import HandS.Lambda
import HandS.IsInst
import HandS.Exc
import HandS.TupAny
import HandS.TupMul
import HandS.Deep
import HandS.WideBits
import KE.DatumOrd
import HandS.Conv
import HandS.Zip
import KE.GoesMore
import KE.GoesEnum
import KE.SortCalls
import KE.SortData
import HandS.TupSets
import HandS.Style
import HandS.DictComp
import HandS.SetKeys
import HandS.TupLen
import KE.DataMinMax
import HandS.SetFor
import HandS.Remove
import HandS.Strs
import PyProof.DictUpdate
import HandS.SortKw
import KE.SortKeyHeap
import HandS.EndTab
import HandS.HeadWalk
import HandS.ExcOwn
import HandS.ExcIs
import HandS.ExcField
import KE.KExcIs
import HandS.ExcInit
import HandS.DictTup
import HandS.More
import HandS.ListItems
import KE.KDictCopyH
import KE.KFmtOwn
import PyProof.InstEq
import HandS.NoneIn
import PyProof.Rows.SetFrom
import PySem.Challenge.RW_lastoflot_k67_whole_out_through_judged
import KE.OsArith
set_option Elab.async false
set_option linter.all false
set_option maxRecDepth 100000
set_option maxHeartbeats 4000000
/-! Dl, part A: plain data over the hand layer's heap; environments; what an expression or a statement comes to. -/
namespace Dl
open PySem PySem.Spec PyProof.Rows L2
open Evl (Ex)

inductive D where
  | non | bl (b : Bool) | int (i : Int) | str (x : Str)
  | lst (l : List D) | tup (l : List D) | tpd (l : List D) | dct (l : List (D × D)) | dtt (l : List (D × D)) | obj (n : Str) (fs : List (Str × D))
  | scr (l : List D)

abbrev LIM : Nat := 1000000
theorem lim_line {n : Nat} (h : n ≤ LIM) : n ≤ sizeLine := Nat.le_trans h (by decide)
theorem lim_lt {n : Nat} (h : n ≤ LIM) : n < sizeLine := Nat.lt_of_le_of_lt h (by decide)

def kD : Key → D
  | .inl i => .int i
  | .inr x => .str x
def tD (k : List Key) : D := .tup (k.map kD)

/-- the written part, and where the classes stand whose instances are data -/
structure Kx where
  K : PySem.W.Frag
  cm : Str → Option Addr
  /-- the tables of code objects of the defs that hold a lambda -/
  T : List (Addr × Str) := []
/-- v is, in the known heap F, the data d -/
inductive Rep (K : Kx) (F : Hp) : V → D → Prop
  | non : Rep K F .non .non
  | bl (b : Bool) : Rep K F (.bl b) (.bl b)
  | int (i : Int) : Rep K F (.int i) (.int i)
  | str (x : Str) : Rep K F (.str x) (.str x)
  | lst {a : Addr} {vs : List V} {l : List D} (h : F a = some (.lst vs)) (hz : l.length ≤ LIM) (hl : vs.length = l.length) (hi : ∀ (i : Nat) (v : V) (d : D), vs[i]? = some v → l[i]? = some d → Rep K F v d) : Rep K F (.ref a) (.lst l)
  | tpd {a : Addr} {od : Obj} {vs : List V} {l : List D} (h : F a = some (.frz od (.tup vs))) (hd : od.dict = none) (hz : l.length ≤ LIM) (hl : vs.length = l.length) (hi : ∀ (i : Nat) (v : V) (d : D), vs[i]? = some v → l[i]? = some d → Rep K F v d) : Rep K F (.ref a) (.tpd l)
  | tup {a : Addr} {vs : List V} {l : List D} (h : F a = some (.tup vs)) (hz : l.length ≤ LIM) (hl : vs.length = l.length) (hi : ∀ (i : Nat) (v : V) (d : D), vs[i]? = some v → l[i]? = some d → Rep K F v d) : Rep K F (.ref a) (.tup l)
  | scr {a : Addr} {vs : List V} {l : List D} (h : SqL K.K F a vs) (hz : l.length ≤ LIM) (hl : vs.length = l.length) (hi : ∀ (i : Nat) (v : V) (d : D), vs[i]? = some v → l[i]? = some d → Rep K F v d) : Rep K F (.ref a) (.scr l)
  | dk {a : Addr} {od : Obj} {kvs : List (Key × V)} {l : List (D × D)} (h : F a = some (.frz od (.dK kvs))) (hz : l.length ≤ LIM) (hl : kvs.map (fun p => kD p.1) = l.map (·.1)) (hi : ∀ (i : Nat) (p : Key × V) (q : D × D), kvs[i]? = some p → l[i]? = some q → Rep K F p.2 q.2) : Rep K F (.ref a) (.dct l)
  | dt {a : Addr} {od : Obj} {kvs : List (List Key × V)} {l : List (D × D)} (h : F a = some (.frz od (.dT kvs))) (hz : l.length ≤ LIM) (hl : kvs.map (fun p => tD p.1) = l.map (·.1)) (hi : ∀ (i : Nat) (p : List Key × V) (q : D × D), kvs[i]? = some p → l[i]? = some q → Rep K F p.2 q.2) : Rep K F (.ref a) (.dtt l)
  | obj {n : Str} {x C dx : Addr} {gs : List (Str × V)} {fs : List (Str × D)} (hc : K.cm n = some C) (h : F x = some (.ins C dx gs)) (ho : F dx = some (.own x)) (hl : gs.map (·.1) = fs.map (·.1)) (hi : ∀ (i : Nat) (p : Str × V) (q : Str × D), gs[i]? = some p → fs[i]? = some q → Rep K F p.2 q.2) : Rep K F (.ref x) (.obj n fs)

section
variable {aS : Option Addr} {K : Kx} {F F' F'' H H' H'' : Hp} {v : V} {d : D}
theorem Rep.mono (e : Ex F F') (r : Rep K F v d) : Rep K F' v d := by
  induction r with
  | non => exact .non
  | bl b => exact .bl b
  | int i => exact .int i
  | str x => exact .str x
  | lst h hz hl _ ih => exact .lst (e _ _ h) hz hl ih
  | tpd h hd hz hl _ ih => exact .tpd (e _ _ h) hd hz hl ih
  | tup h hz hl _ ih => exact .tup (e _ _ h) hz hl ih
  | scr h hz hl _ ih => exact .scr (Evl.ex_l e h) hz hl ih
  | dk h hz hl _ ih => exact .dk (e _ _ h) hz hl ih
  | dt h hz hl _ ih => exact .dt (e _ _ h) hz hl ih
  | obj hc h ho hl _ ih => exact .obj hc (e _ _ h) (e _ _ ho) hl ih

/-- values and data, one by one -/
def Reps (K : Kx) (F : Hp) (vs : List V) (l : List D) : Prop := Paired (Rep K F) vs l
theorem Reps.mono (e : Ex F F') {vs : List V} {l : List D} (r : Reps K F vs l) : Reps K F' vs l := Paired.mono (fun _ _ h => h.mono e) r
theorem Reps.length {vs : List V} {l : List D} (r : Reps K F vs l) : vs.length = l.length := Paired.length r
theorem Reps.at : ∀ {vs : List V} {l : List D}, Reps K F vs l → ∀ (i : Nat) (v : V) (d : D), vs[i]? = some v → l[i]? = some d → Rep K F v d
  | _, _, .nil, _, _, _, h, _ => by simp at h
  | _, _, .cons r _, 0, v, d, h, h' => by
    have e := Option.some.inj h
    have e' := Option.some.inj h'
    rw [← e, ← e']
    exact r
  | _, _, .cons _ t, i + 1, v, d, h, h' => Reps.at t i v d h h'
theorem Reps.of : ∀ {vs : List V} {l : List D}, vs.length = l.length → (∀ (i : Nat) (v : V) (d : D), vs[i]? = some v → l[i]? = some d → Rep K F v d) → Reps K F vs l
  | [], [], _, _ => .nil
  | [], _ :: _, h, _ => by cases h
  | _ :: _, [], h, _ => by cases h
  | v :: vs, d :: l, h, hi => .cons (hi 0 v d rfl rfl) (Reps.of (Nat.succ.inj h) fun i w e h1 h2 => hi (i + 1) w e h1 h2)
theorem Reps.get {vs : List V} {l : List D} (r : Reps K F vs l) {i : Nat} {d : D} (h : l[i]? = some d) : ∃ v, vs[i]? = some v ∧ Rep K F v d := by
  have hi : i < l.length := (List.getElem?_eq_some_iff.mp h).1
  have hj : i < vs.length := by rw [r.length]; exact hi
  exact ⟨vs[i], List.getElem?_eq_getElem hj, r.at i _ _ (List.getElem?_eq_getElem hj) h⟩
theorem Reps.append {vs ws : List V} {l m : List D} (r : Reps K F vs l) (q : Reps K F ws m) : Reps K F (vs ++ ws) (l ++ m) := by
  induction r with
  | nil => exact q
  | cons r _ ih => exact .cons r ih
theorem Rep.of_tup {v : V} {l : List D} (r : Rep K F v (.tup l)) : ∃ a vs, v = .ref a ∧ F a = some (.tup vs) ∧ l.length ≤ LIM ∧ Reps K F vs l := by
  cases r with
  | tup h hz hl hi => exact ⟨_, _, rfl, h, hz, Reps.of hl hi⟩
theorem Rep.of_lst {v : V} {l : List D} (r : Rep K F v (.lst l)) : ∃ a vs, v = .ref a ∧ F a = some (.lst vs) ∧ l.length ≤ LIM ∧ Reps K F vs l := by
  cases r with
  | lst h hz hl hi => exact ⟨_, _, rfl, h, hz, Reps.of hl hi⟩
theorem Rep.of_scr {v : V} {l : List D} (r : Rep K F v (.scr l)) : ∃ a vs, v = .ref a ∧ SqL K.K F a vs ∧ l.length ≤ LIM ∧ Reps K F vs l := by
  cases r with
  | scr h hz hl hi => exact ⟨_, _, rfl, h, hz, Reps.of hl hi⟩
theorem Rep.mk_tup {a : Addr} {vs : List V} {l : List D} (h : F a = some (.tup vs)) (hz : l.length ≤ LIM) (r : Reps K F vs l) : Rep K F (.ref a) (.tup l) := .tup h hz r.length r.at
theorem Rep.mk_tpd {a : Addr} {od : Obj} {vs : List V} {l : List D} (h : F a = some (.frz od (.tup vs))) (hd : od.dict = none) (hz : l.length ≤ LIM) (r : Reps K F vs l) : Rep K F (.ref a) (.tpd l) := .tpd h hd hz r.length r.at
theorem Rep.of_tpd {v : V} {l : List D} (r : Rep K F v (.tpd l)) : ∃ a od vs, v = .ref a ∧ F a = some (.frz od (.tup vs)) ∧ od.dict = none ∧ l.length ≤ LIM ∧ Reps K F vs l := by
  cases r with
  | tpd h hd hz hl hi => exact ⟨_, _, _, rfl, h, hd, hz, Reps.of hl hi⟩
theorem Rep.mk_lst {a : Addr} {vs : List V} {l : List D} (h : F a = some (.lst vs)) (hz : l.length ≤ LIM) (r : Reps K F vs l) : Rep K F (.ref a) (.lst l) := .lst h hz r.length r.at
theorem Rep.int_inv {i : Int} (r : Rep K F v (.int i)) : v = .int i := by cases r; rfl
theorem Rep.bl_inv {b : Bool} (r : Rep K F v (.bl b)) : v = .bl b := by cases r; rfl
theorem Rep.str_inv {x : Str} (r : Rep K F v (.str x)) : v = .str x := by cases r; rfl
theorem Reps.ints {vs : List V} : ∀ {ns : List Int}, Reps K F vs (ns.map D.int) → vs = ns.map V.int := by
  intro ns
  induction ns generalizing vs with
  | nil => intro r; cases r; rfl
  | cons n ns ih =>
    intro r
    cases r with
    | cons r t => rw [r.int_inv, ih t]; rfl
theorem Reps.bls {vs : List V} : ∀ {ns : List Bool}, Reps K F vs (ns.map D.bl) → vs = ns.map V.bl := by
  intro ns
  induction ns generalizing vs with
  | nil => intro r; cases r; rfl
  | cons n ns ih =>
    intro r
    cases r with
    | cons r t => rw [r.bl_inv, ih t]; rfl
theorem Reps.of_ints (ns : List Int) : Reps K F (ns.map V.int) (ns.map D.int) := by
  induction ns with
  | nil => exact .nil
  | cons n ns ih => exact .cons (.int n) ih

/-- a container that may be the code's own (not known to others) or known -/
inductive BRep (aS : Option Addr) (K : Kx) (F H : Hp) : V → D → Prop
  | of {v : V} {d : D} (r : Rep K F v d) : BRep aS K F H v d
  | ow {a : Addr} {vs : List V} {l : List D} (ns : aS ≠ some a) (hF : F a = none) (hH : H a = some (.lst vs)) (hz : l.length ≤ LIM) (r : Reps K F vs l) : BRep aS K F H (.ref a) (.lst l)
  | ok {a : Addr} {kvs : List (Key × V)} {l : List (D × D)} (ns : aS ≠ some a) (hF : F a = none) (hH : H a = some (.dK kvs)) (hz : l.length ≤ LIM) (hk : kvs.map (fun p => kD p.1) = l.map (·.1)) (r : Reps K F (kvs.map (·.2)) (l.map (·.2))) : BRep aS K F H (.ref a) (.dct l)
  | ot {a : Addr} {kvs : List (List Key × V)} {l : List (D × D)} (ns : aS ≠ some a) (hF : F a = none) (hH : H a = some (.dT kvs)) (hz : l.length ≤ LIM) (hk : kvs.map (fun p => tD p.1) = l.map (·.1)) (r : Reps K F (kvs.map (·.2)) (l.map (·.2))) : BRep aS K F H (.ref a) (.dtt l)

/-- no table of code objects -/
def nb : HO → Bool
  | .tbl _ => false
  | _ => true
/-- what may be one's own -/
def nt : HO → Bool
  | .tbl _ => false
  | .tup _ => false
  | .ext _ => false
  | _ => true
abbrev NT (o : HO) : Prop := nt o = true
theorem NT.nb {o : HO} (h : NT o) : nb o = true := by cases o <;> first | rfl | cases h
theorem NT.tup {o : HO} (h : NT o) (vs : List V) : o ≠ .tup vs := fun z => by rw [z] at h; cases h
/-- a step that leaves all but the source as it was (tuples may get known) -/
structure Fr (aS : Option Addr) (F H F' H' : Hp) : Prop where
  ff : Ex F F'
  fh : Ex F' H'
  kq : ∀ a o, F a = none → aS ≠ some a → H a = some o → nb o = true → H' a = some o ∧ (F' a = none ∨ ∃ vs, o = .tup vs)
  dm : ∀ a, H' a = none → H a = none
theorem dm_upd {H : Hp} {p : Addr} {o : HO} : ∀ a, upd H p o a = none → H a = none := fun a h => by
  by_cases q : a = p
  · rw [q, upd_same] at h; cases h
  · rw [upd_ne q] at h; exact h
theorem dm_ex (e : Ex H H') : ∀ a, H' a = none → H a = none := fun a h => by
  cases q : H a with
  | none => rfl
  | some o => rw [e a o q] at h; cases h
/-- a step that changes nothing at all -/
structure Fp (F H F' H' : Hp) : Prop where
  ff : Ex F F'
  fh : Ex F' H'
  hh : Ex H H'
  kq : ∀ a o, F a = none → H a = some o → F' a = none ∨ ∃ vs, o = .tup vs
theorem Fr.kp (f : Fr aS F H F' H') (a : Addr) (o : HO) (h : F a = none) (n : aS ≠ some a) (h' : H a = some o) (hm : NT o := by rfl) : H' a = some o ∧ F' a = none := by
  obtain ⟨h1, h2 | ⟨vs, h2⟩⟩ := f.kq a o h n h' hm.nb
  · exact ⟨h1, h2⟩
  · exact absurd h2 (hm.tup vs)
theorem Fp.kp (f : Fp F H F' H') (a : Addr) (o : HO) (h : F a = none) (h' : H a = some o) (hm : NT o := by rfl) : F' a = none := by
  rcases f.kq a o h h' with h2 | ⟨vs, h2⟩
  · exact h2
  · exact absurd h2 (hm.tup vs)
theorem Fp.fr (f : Fp F H F' H') : Fr aS F H F' H' := ⟨f.ff, f.fh, fun a o h _ h' _ => ⟨f.hh a o h', f.kq a o h h'⟩, dm_ex f.hh⟩
theorem Fp.refl (e : Ex F H) : Fp F H F H := ⟨Ex.refl _, e, Ex.refl _, fun _ _ h _ => .inl h⟩
theorem Fp.trans (a : Fp F H F' H') (b : Fp F' H' F'' H'') : Fp F H F'' H'' := ⟨a.ff.trans b.ff, b.fh, a.hh.trans b.hh, fun c o h h' => by
  rcases a.kq c o h h' with h2 | h2
  · exact b.kq c o h2 (a.hh c o h')
  · exact .inr h2⟩
theorem Fr.refl (e : Ex F H) : Fr aS F H F H := ⟨Ex.refl _, e, fun _ _ h _ h' _ => ⟨h', .inl h⟩, fun _ h => h⟩
theorem Fr.trans (a : Fr aS F H F' H') (b : Fr aS F' H' F'' H'') : Fr aS F H F'' H'' := ⟨a.ff.trans b.ff, b.fh, fun c o h n h' hb => by
  obtain ⟨h1, h2⟩ := a.kq c o h n h' hb
  cases q : F' c with
  | none => exact b.kq c o q n h1 hb
  | some u =>
    have e := a.fh c u q
    rw [h1] at e
    cases e
    refine ⟨b.fh c o (b.ff c o q), .inr ?_⟩
    rcases h2 with h2 | h2
    · rw [q] at h2; cases h2
    · exact h2, fun c h => a.dm _ (b.dm _ h)⟩
theorem Ex.none_of {a : Addr} (e : Ex F H) (h : H a = none) : F a = none := by
  cases q : F a with
  | none => rfl
  | some o =>
    rw [e a o q] at h
    cases h
/-- a new thing, known -/
theorem Fp.new {p : Addr} {o : HO} (e : Ex F H) (h : H p = none) : Fp F H (upd F p o) (upd H p o) := by
  refine ⟨Ex.new (Ex.none_of e h), fun a u q => ?_, Ex.new h, fun a u q r => .inl ?_⟩
  · by_cases ha : a = p
    · subst ha
      rw [upd_same] at q ⊢
      exact q
    · rw [upd_ne ha] at q ⊢
      exact e a u q
  · have ha : a ≠ p := ne_of_none r h
    rw [upd_ne ha]
    exact q
/-- a new thing, not known to others -/
theorem Fp.own {p : Addr} {o : HO} (e : Ex F H) (h : H p = none) : Fp F H F (upd H p o) := by
  refine ⟨Ex.refl _, fun a u q => ?_, Ex.new h, fun a u q r => .inl q⟩
  rw [upd_ne (ne_of_none (e a u q) h)]
  exact e a u q
/-- a thing of one's own is let go to the known -/
theorem Ex.freeze {p : Addr} {o : HO} (e : Ex F H) (h : H p = some o) : Ex (upd F p o) H := fun a u q => by
  by_cases ha : a = p
  · subst ha
    rw [upd_same] at q
    rw [h]
    exact q
  · rw [upd_ne ha] at q
    exact e a u q
theorem BRep.step (f : Fr aS F H F' H') (r : BRep aS K F H v d) : BRep aS K F' H' v d := by
  cases r with
  | of r => exact .of (r.mono f.ff)
  | ow ns hF hH hz r =>
    obtain ⟨h1, h2⟩ := f.kp _ _ hF ns hH
    exact .ow ns h2 h1 hz (r.mono f.ff)
  | ok ns hF hH hz hk r =>
    obtain ⟨h1, h2⟩ := f.kp _ _ hF ns hH
    exact .ok ns h2 h1 hz hk (r.mono f.ff)
  | ot ns hF hH hz hk r =>
    obtain ⟨h1, h2⟩ := f.kp _ _ hF ns hH
    exact .ot ns h2 h1 hz hk (r.mono f.ff)
theorem BRep.stepP (f : Fp F H F' H') (r : BRep aS K F H v d) : BRep aS K F' H' v d := r.step f.fr
theorem BRep.int_inv {i : Int} (r : BRep aS K F H v (.int i)) : v = .int i := by
  cases r with
  | of r => exact r.int_inv
theorem BRep.bl_inv {i : Bool} (r : BRep aS K F H v (.bl i)) : v = .bl i := by
  cases r with
  | of r => exact r.bl_inv
theorem BRep.str_inv {i : Str} (r : BRep aS K F H v (.str i)) : v = .str i := by
  cases r with
  | of r => exact r.str_inv
theorem BRep.of_tup {l : List D} (r : BRep aS K F H v (.tup l)) : Rep K F v (.tup l) := by
  cases r with
  | of r => exact r
theorem BRep.of_lst (e : Ex F H) {l : List D} (r : BRep aS K F H v (.lst l)) : ∃ a vs, v = .ref a ∧ H a = some (.lst vs) ∧ l.length ≤ LIM ∧ Reps K F vs l := by
  cases r with
  | of r =>
    obtain ⟨a, vs, e1, h, hz, r⟩ := r.of_lst
    exact ⟨a, vs, e1, e a _ h, hz, r⟩
  | ow ns hF hH hz r => exact ⟨_, _, rfl, hH, hz, r⟩
end

/-! ### the source, the slots -/
/-- the source may be a dict: told by one thing -/
def isDs : List D → Bool
  | [.dct _] => true
  | [.dtt _] => true
  | _ => false
/-- what the source s is, at a -/
def SrcX (K : Kx) (F H : Hp) (a : Addr) (s : List D) : Prop :=
  (isDs s = false ∧ (0 < s.length ∧ s.length ≤ LIM) ∧ ∃ vs, H a = some (.lst vs) ∧ Reps K F vs s) ∨
  (∃ (l : List (D × D)) (kvs : List (Key × V)), s = [.dct l] ∧ H a = some (.dK kvs) ∧ l.length ≤ LIM ∧ kvs.map (fun p => kD p.1) = l.map (·.1) ∧ Reps K F (kvs.map (·.2)) (l.map (·.2))) ∨
  (∃ (l : List (D × D)) (kvs : List (List Key × V)), s = [.dtt l] ∧ H a = some (.dT kvs) ∧ l.length ≤ LIM ∧ kvs.map (fun p => tD p.1) = l.map (·.1) ∧ Reps K F (kvs.map (·.2)) (l.map (·.2)))
theorem SrcX.loc {K : Kx} {F H F' H' : Hp} {a : Addr} {s : List D} (e : H' a = H a) (ff : Ex F F') (h : SrcX K F H a s) : SrcX K F' H' a s := by
  rcases h with ⟨h0, hz, vs, h1, r⟩ | ⟨l, kvs, h0, h1, hz, hk, r⟩ | ⟨l, kvs, h0, h1, hz, hk, r⟩
  · exact .inl ⟨h0, hz, vs, e.trans h1, r.mono ff⟩
  · exact .inr (.inl ⟨l, kvs, h0, e.trans h1, hz, hk, r.mono ff⟩)
  · exact .inr (.inr ⟨l, kvs, h0, e.trans h1, hz, hk, r.mono ff⟩)
theorem SrcX.some {K : Kx} {F H : Hp} {a : Addr} {s : List D} (h : SrcX K F H a s) : ∃ o, H a = some o ∧ NT o := by
  rcases h with ⟨h0, hz, vs, h1, r⟩ | ⟨l, kvs, h0, h1, hz, hk, r⟩ | ⟨l, kvs, h0, h1, hz, hk, r⟩
  · exact ⟨_, h1, rfl⟩
  · exact ⟨_, h1, rfl⟩
  · exact ⟨_, h1, rfl⟩
theorem SrcX.off {K : Kx} {F H : Hp} {a p : Addr} {s : List D} (h : SrcX K F H a s) (hp : H p = none) : a ≠ p := fun z => by
  obtain ⟨o, ho, _⟩ := h.some
  rw [z, hp] at ho
  cases ho
theorem SrcX.ne {K : Kx} {F H : Hp} {a : Addr} {s : List D} (h : SrcX K F H a s) : s ≠ [] := by
  rcases h with ⟨h0, hz, vs, h1, r⟩ | ⟨l, kvs, h0, _⟩ | ⟨l, kvs, h0, _⟩
  · exact fun z => by rw [z] at hz; exact absurd hz.1 (Nat.lt_irrefl _)
  · rw [h0]; exact fun z => nomatch z
  · rw [h0]; exact fun z => nomatch z
structure SrcAt (aS : Option Addr) (K : Kx) (s : List D) (F H : Hp) : Prop where
  tb : LamX.Tabs K.T H
  nf : ∀ p ∈ K.T, F p.1 = none
  at' : ∀ a, aS = some a → F a = none ∧ SrcX K F H a s
/-- what the tables tell stays where neither they nor the code objects change -/
theorem tabs_keep {T : List (Addr × Str)} {H H' : Hp} (t : LamX.Tabs T H) (e : ∀ a o, H a = some o → nt o = false → H' a = some o) : LamX.Tabs T H' := fun p hp => by
  obtain ⟨ps, h1, h2, h3⟩ := t p hp
  refine ⟨ps, e _ _ h1 rfl, h2, fun pos cv hc => ?_⟩
  obtain ⟨c, e1, e2⟩ := h3 pos cv hc
  exact ⟨c, e1, e _ _ e2 rfl⟩
theorem tabs_upd {T : List (Addr × Str)} {H : Hp} {p : Addr} {o : HO} (t : LamX.Tabs T H) (h : ∀ u, H p = some u → NT u) : LamX.Tabs T (upd H p o) := tabs_keep t fun a u e hu => by
  by_cases q : a = p
  · subst q
    have := h _ e
    have this : nt u = true := this
    rw [hu] at this
    cases this
  · rw [upd_ne q]; exact e
theorem nf_upd {T : List (Addr × Str)} {F H : Hp} {a : Addr} {o : HO} (t : LamX.Tabs T H) (n : ∀ p ∈ T, F p.1 = none) (h : ∀ u, H a = some u → NT u) : ∀ p ∈ T, upd F a o p.1 = none := fun p hp => by
  by_cases q : p.1 = a
  · obtain ⟨ps, h1, _⟩ := t p hp
    rw [q] at h1
    have := h _ h1
    cases this
  · rw [upd_ne q]; exact n p hp
theorem tabs_new {T : List (Addr × Str)} {H : Hp} {p : Addr} {o : HO} (t : LamX.Tabs T H) (h : H p = none) : LamX.Tabs T (upd H p o) := tabs_upd t fun u e => by rw [h] at e; cases e
/-- other things of one's own: a dict with plain keys, with tuples as keys, one of lists of one's own, an object, one whose last field is such a dict -/
inductive Ow where
  | dk (l : List (D × D)) | dt (l : List (D × D)) | dl (l : List (D × List D)) | ob (t : Bool) (n : Str) (fs : List (Str × D)) | od (t : Bool) (n : Str) (fs : List (Str × D)) (f : Str) (l : List (D × List D))
inductive Sl where
  | no | im (d : D) | ow (l : List D) | sr | oo (o : Ow) | er (a : Addr) (d : Option Addr) (fs : List (Str × D))
/-- the known and the whole heap at the code's entry; what is known since -/
structure Bs where
  f : Hp
  h : Hp
  k : Hp
  p : Option Addr
/-- nobody's but one's own -/
structure Free (aS : Option Addr) (B : Bs) (F : Hp) (p : Addr) : Prop where
  nb : B.h p = none
  ns : aS ≠ some p
  nF : F p = none
def LsAt (K : Kx) (F H : Hp) (a : Addr) (l : List D) : Prop := ∃ vs, H a = some (.lst vs) ∧ l.length ≤ LIM ∧ Reps K F vs l
def DlAt (K : Kx) (F H : Hp) (a : Addr) (as : List Addr) (l : List (D × List D)) : Prop := ∃ kas : List (Key × Addr), H a = some (.dK (kas.map fun p => (p.1, V.ref p.2))) ∧ l.length ≤ LIM ∧ as = kas.map (·.2) ∧ as.Nodup ∧
  Paired (fun (p : Key × Addr) (q : D × List D) => kD p.1 = q.1 ∧ LsAt K F H p.2 q.2) kas l
/-- an object of one's own -/
def ObAt (aS : Option Addr) (K : Kx) (B : Bs) (F H : Hp) (a : Addr) (t : Bool) (n : Str) (fs : List (Str × D)) : Prop :=
  ∃ C dx gs, (K.cm n = some C ∧ (t = true → B.p = some a)) ∧ H a = some (.ins C dx gs) ∧ H dx = some (.own a) ∧ F dx = none ∧ B.h dx = none ∧ aS ≠ some dx ∧ gs.map (·.1) = fs.map (·.1) ∧ Reps K F (gs.map (·.2)) (fs.map (·.2))
/-- .. by the places fp that it takes -/
def OwAt (K : Kx) (B : Bs) (F H : Hp) (fp : List Addr) (a : Addr) : Ow → Prop
  | .dk l => fp = [a] ∧ ∃ kvs : List (Key × V), H a = some (.dK kvs) ∧ l.length ≤ LIM ∧ kvs.map (fun p => kD p.1) = l.map (·.1) ∧ Reps K F (kvs.map (·.2)) (l.map (·.2))
  | .dt l => fp = [a] ∧ ∃ kvs : List (List Key × V), H a = some (.dT kvs) ∧ l.length ≤ LIM ∧ kvs.map (fun p => tD p.1) = l.map (·.1) ∧ Reps K F (kvs.map (·.2)) (l.map (·.2))
  | .dl l => ∃ as, fp = a :: as ∧ DlAt K F H a as l
  | .ob t n fs => ∃ C dx gs, fp = [a, dx] ∧ (K.cm n = some C ∧ (t = true → B.p = some a)) ∧ H a = some (.ins C dx gs) ∧ H dx = some (.own a) ∧ gs.map (·.1) = fs.map (·.1) ∧ Reps K F (gs.map (·.2)) (fs.map (·.2))
  | .od t n fs f l => ∃ C dx gs q as, fp = a :: dx :: q :: as ∧ (K.cm n = some C ∧ (t = true → B.p = some a)) ∧ H a = some (.ins C dx (gs ++ [(f, V.ref q)])) ∧ H dx = some (.own a) ∧ gs.map (·.1) = fs.map (·.1) ∧ Reps K F (gs.map (·.2)) (fs.map (·.2)) ∧ DlAt K F H q as l
/-- the fields of the error that a suite holds: its dict is known -/
def ErF (K : Kx) (F : Hp) (d : Option Addr) (fs : List (Str × D)) : Prop := ∀ dd, d = some dd → ∃ vs : List (Str × V), F dd = some (.xd vs) ∧ vs.map (·.1) = fs.map (·.1) ∧ Reps K F (vs.map (·.2)) (fs.map (·.2))
theorem ErF.mono {K : Kx} {F F' : Hp} {d : Option Addr} {fs : List (Str × D)} (e : Ex F F') (h : ErF K F d fs) : ErF K F' d fs := fun dd q => by
  obtain ⟨vs, h1, h2, h3⟩ := h dd q
  exact ⟨vs, e _ _ h1, h2, h3.mono e⟩
def SlOk (aS : Option Addr) (K : Kx) (B : Bs) (F H : Hp) (fp : List Addr) (x : Option V) : Sl → Prop
  | .no => True
  | .im d => ∃ v, x = some v ∧ Rep K F v d
  | .ow l => ∃ a, x = some (.ref a) ∧ fp = [a] ∧ LsAt K F H a l
  | .sr => ∃ a, x = some (.ref a) ∧ aS = some a
  | .oo o => ∃ a, x = some (.ref a) ∧ OwAt K B F H fp a o
  | .er a d fs => x = some (.ref a) ∧ ErF K F d fs
def isOw : Sl → Bool
  | .ow _ => true
  | .oo _ => true
  | _ => false
structure REnv (aS : Option Addr) (K : Kx) (B : Bs) (s : List D) (F H : Hp) (σ : L2.St) (ρ : List Sl) : Prop where
  fr : Fr aS B.f B.h F H
  kn : Ex B.k F
  src : SrcAt aS K s F H
  len : σ.length = ρ.length
  sl : ∃ φ : Nat → List Addr, (∀ i p, p ∈ φ i → Free aS B F p ∧ ∃ o, H p = some o ∧ NT o) ∧ (∀ i j p, i ≠ j → p ∈ φ i → p ∈ φ j → False) ∧
    ∀ (i : Nat) (x : Option V) (y : Sl), σ[i]? = some x → ρ[i]? = some y → SlOk aS K B F H (φ i) x y

section
variable {aS : Option Addr} {K : Kx} {B : Bs} {F F' H H' : Hp} {v : V} {d : D} {s s' : List D} {σ : L2.St} {ρ : List Sl} {fp : List Addr}
theorem SrcAt.stepP (f : Fp F H F' H') (h : SrcAt aS K s F H) : SrcAt aS K s F' H' := ⟨h.tb.ext f.hh, (fun p hp => by
  obtain ⟨ps, h1, _⟩ := h.tb p hp
  rcases f.kq p.1 _ (h.nf p hp) h1 with h2 | ⟨vs, h2⟩
  · exact h2
  · cases h2), fun a e => by
  obtain ⟨h1, h2⟩ := h.at' a e
  obtain ⟨o, ho, nt⟩ := h2.some
  exact ⟨f.kp a _ h1 ho nt, h2.loc ((f.hh a _ ho).trans ho.symm) f.ff⟩⟩
theorem Paired.map_mem {α β : Type} {G G' : α → β → Prop} {l : List α} {m : List β} (h : Paired G l m) : (∀ x ∈ l, ∀ y, G x y → G' x y) → Paired G' l m := by
  induction h with
  | nil => exact fun _ => .nil
  | cons r _ ih => exact fun k => .cons (k _ List.mem_cons_self _ r) (ih fun x hx => k x (List.mem_cons_of_mem _ hx))
theorem LsAt.loc {a : Addr} {l : List D} (hl : H' a = H a) (ff : Ex F F') (h : LsAt K F H a l) : LsAt K F' H' a l := by
  obtain ⟨vs, h1, h2, h3⟩ := h
  exact ⟨vs, hl.trans h1, h2, h3.mono ff⟩
theorem DlAt.loc {a : Addr} {as : List Addr} {l : List (D × List D)} (h0 : H' a = H a) (hl : ∀ p ∈ as, H' p = H p) (ff : Ex F F') (h : DlAt K F H a as l) : DlAt K F' H' a as l := by
  obtain ⟨kas, h1, h2, rfl, h4, h5⟩ := h
  exact ⟨kas, h0.trans h1, h2, rfl, h4, Paired.map_mem h5 fun p hp q h => ⟨h.1, h.2.loc (hl _ (List.mem_map_of_mem hp)) ff⟩⟩
theorem OwAt.loc {a : Addr} {o : Ow} (hl : ∀ p ∈ fp, H' p = H p) (ff : Ex F F') (h : OwAt K B F H fp a o) : OwAt K B F' H' fp a o := by
  cases o with
  | dk l =>
    obtain ⟨rfl, kvs, h1, h2, h3, h4⟩ := h
    exact ⟨rfl, kvs, (hl _ List.mem_cons_self).trans h1, h2, h3, h4.mono ff⟩
  | dt l =>
    obtain ⟨rfl, kvs, h1, h2, h3, h4⟩ := h
    exact ⟨rfl, kvs, (hl _ List.mem_cons_self).trans h1, h2, h3, h4.mono ff⟩
  | dl l =>
    obtain ⟨as, rfl, h1⟩ := h
    exact ⟨as, rfl, h1.loc (hl _ List.mem_cons_self) (fun p hp => hl p (List.mem_cons_of_mem _ hp)) ff⟩
  | ob t n fs =>
    obtain ⟨C, dx, gs, rfl, h1, h2, h3, h7, h8⟩ := h
    exact ⟨C, dx, gs, rfl, h1, (hl _ List.mem_cons_self).trans h2, (hl _ (List.mem_cons_of_mem _ List.mem_cons_self)).trans h3, h7, h8.mono ff⟩
  | od t n fs f l =>
    obtain ⟨C, dx, gs, q, as, rfl, h1, h2, h3, h7, h8, h9⟩ := h
    exact ⟨C, dx, gs, q, as, rfl, h1, (hl _ List.mem_cons_self).trans h2, (hl _ (List.mem_cons_of_mem _ List.mem_cons_self)).trans h3, h7, h8.mono ff,
      h9.loc (hl _ (List.mem_cons_of_mem _ (List.mem_cons_of_mem _ List.mem_cons_self))) (fun p hp => hl p (List.mem_cons_of_mem _ (List.mem_cons_of_mem _ (List.mem_cons_of_mem _ hp)))) ff⟩
theorem SlOk.loc {x : Option V} {y : Sl} (hl : ∀ p ∈ fp, H' p = H p) (ff : Ex F F') (h : SlOk aS K B F H fp x y) : SlOk aS K B F' H' fp x y := by
  cases y with
  | no => trivial
  | im d =>
    obtain ⟨v, e, r⟩ := h
    exact ⟨v, e, r.mono ff⟩
  | ow l =>
    obtain ⟨a, e, rfl, h⟩ := h
    exact ⟨a, e, rfl, h.loc (hl _ List.mem_cons_self) ff⟩
  | sr => exact h
  | oo o =>
    obtain ⟨a, e, h⟩ := h
    exact ⟨a, e, h.loc hl ff⟩
  | er a d fs => exact ⟨h.1, h.2.mono ff⟩
theorem OwAt.base {B' : Bs} {a : Addr} {o : Ow} (e : B'.p = B.p) (h : OwAt K B F H fp a o) : OwAt K B' F H fp a o := by
  cases o with
  | dk l => exact h
  | dt l => exact h
  | dl l => exact h
  | ob t n fs =>
    obtain ⟨C, dx, gs, h0, h1, h2⟩ := h
    exact ⟨C, dx, gs, h0, ⟨h1.1, fun z => e.trans (h1.2 z)⟩, h2⟩
  | od t n fs f l =>
    obtain ⟨C, dx, gs, q, as, h0, h1, h2⟩ := h
    exact ⟨C, dx, gs, q, as, h0, ⟨h1.1, fun z => e.trans (h1.2 z)⟩, h2⟩
/-- the places of a slot that is no thing of one's own don't matter -/
theorem SlOk.any {x : Option V} {y : Sl} {fp' : List Addr} (hy : isOw y = false) (h : SlOk aS K B F H fp x y) : SlOk aS K B F H fp' x y := by
  cases y with
  | no => trivial
  | im d => exact h
  | sr => exact h
  | er a d fs => exact h
  | ow l => cases hy
  | oo o => cases hy
theorem REnv.ex (R : REnv aS K B s F H σ ρ) : Ex F H := R.fr.fh
theorem REnv.step (R : REnv aS K B s F H σ ρ) (f : Fr aS F H F' H') (hs : SrcAt aS K s' F' H') : REnv aS K B s' F' H' σ ρ := by
  obtain ⟨φ, h1, h2, h3⟩ := R.sl
  have hk : ∀ i p, p ∈ φ i → ∃ o, H p = some o ∧ H' p = some o ∧ F' p = none ∧ NT o := fun i p hp => by
    obtain ⟨fr, o, ho, nt⟩ := h1 i p hp
    obtain ⟨h4, h5⟩ := f.kp p o fr.nF fr.ns ho nt
    exact ⟨o, ho, h4, h5, nt⟩
  refine ⟨R.fr.trans f, R.kn.trans f.ff, hs, R.len, φ, fun i p hp => ?_, h2, fun i x y e1 e2 => (h3 i x y e1 e2).loc (fun p hp => ?_) f.ff⟩
  · obtain ⟨o, _, h5, h6, nt⟩ := hk i p hp
    exact ⟨⟨(h1 i p hp).1.nb, (h1 i p hp).1.ns, h6⟩, o, h5, nt⟩
  · obtain ⟨o, h4, h5, _⟩ := hk i p hp
    rw [h4, h5]
theorem REnv.stepP (R : REnv aS K B s F H σ ρ) (f : Fp F H F' H') : REnv aS K B s F' H' σ ρ := R.step f.fr (R.src.stepP f)
/-- what stood at the entry stands -/
theorem REnv.stands (R : REnv aS K B s F H σ ρ) {a : Addr} (h : H a = none) : B.h a = none := R.fr.dm a h
theorem REnv.notSrc (R : REnv aS K B s F H σ ρ) {a : Addr} (h : H a = none) : aS ≠ some a := fun e => by
  obtain ⟨o, h2, _⟩ := (R.src.at' a e).2.some
  rw [h] at h2
  cases h2
theorem set_at {α : Type} {l : List α} {i j : Nat} {x y : α} (h : (l.set i x)[j]? = some y) : (i = j ∧ y = x ∧ i < l.length) ∨ (i ≠ j ∧ l[j]? = some y) := by
  rw [List.getElem?_set] at h
  split at h
  · rename_i e
    split at h
    · rename_i q
      cases h
      exact .inl ⟨e, rfl, q⟩
    · cases h
  · rename_i e
    exact .inr ⟨e, h⟩
/-- slot i changes, and what stands at its places; new things may be made -/
theorem REnv.view (i : Nat) (R : REnv aS K B s F H σ ρ) : ∃ fp : List Addr, (∀ p ∈ fp, Free aS B F p ∧ ∃ o, H p = some o ∧ NT o) ∧ (∀ x y, σ[i]? = some x → ρ[i]? = some y → SlOk aS K B F H fp x y) ∧
    ∀ {F' H' : Hp} {s' : List D} {x' : Option V} {y' : Sl}, Ex F F' → Ex F' H' → SrcAt aS K s' F' H' →
      (∃ fp' : List Addr, SlOk aS K B F' H' fp' x' y' ∧ (∀ p ∈ fp', (p ∈ fp ∨ H p = none) ∧ F' p = none ∧ ∃ o, H' p = some o ∧ NT o) ∧ ∀ p o, p ∉ fp → F p = none → aS ≠ some p → H p = some o → nb o = true → H' p = some o ∧ (F' p = none ∨ ∃ vs, o = .tup vs)) → (∀ a, H' a = none → B.h a = none) →
      REnv aS K B s' F' H' (σ.set i x') (ρ.set i y') := by
  obtain ⟨φ, h1, h2, h3⟩ := R.sl
  refine ⟨φ i, h1 i, h3 i, fun {F' H' s' x' y'} ff fh hs h dm => ?_⟩
  obtain ⟨fp', g1, g2, g3⟩ := h
  have hk : ∀ j p, j ≠ i → p ∈ φ j → ∃ o, H p = some o ∧ H' p = some o ∧ F' p = none ∧ NT o := fun j p hj hp => by
    obtain ⟨fr, o, ho, nt⟩ := h1 j p hp
    obtain ⟨h4, h5⟩ := g3 p o (fun z => h2 j i p hj hp z) fr.nF fr.ns ho (NT.nb nt)
    rcases h5 with h5 | ⟨vs, h5⟩
    · exact ⟨o, ho, h4, h5, nt⟩
    · exact absurd h5 (NT.tup nt vs)
  refine ⟨⟨R.fr.ff.trans ff, fh, fun a o e1 e2 e3 e9 => ?_, dm⟩, R.kn.trans ff, hs, by rw [List.length_set, List.length_set, R.len], fun j => if j = i then fp' else φ j, fun j p hp => ?_, fun j k p hjk hp hq => ?_, fun j x y e1 e2 => ?_⟩
  · have ne : a ∉ φ i := fun z => by
      have := (h1 i a z).1.nb
      rw [e3] at this
      cases this
    obtain ⟨e4, e5⟩ := R.fr.kq a o e1 e2 e3 e9
    cases q : F a with
    | none => exact g3 a o ne q e2 e4 e9
    | some u =>
      have e := R.ex a u q
      rw [e4] at e
      cases e
      refine ⟨fh a o (ff a o q), .inr ?_⟩
      rcases e5 with e5 | e5
      · rw [q] at e5; cases e5
      · exact e5
  · dsimp only at hp
    split at hp
    · obtain ⟨q1, q2, q3⟩ := g2 p hp
      rcases q1 with q1 | q1
      · exact ⟨⟨(h1 i p q1).1.nb, (h1 i p q1).1.ns, q2⟩, q3⟩
      · exact ⟨⟨R.stands q1, R.notSrc q1, q2⟩, q3⟩
    · rename_i hj
      obtain ⟨o, _, q2, q3, nt⟩ := hk j p hj hp
      exact ⟨⟨(h1 j p hp).1.nb, (h1 j p hp).1.ns, q3⟩, o, q2, nt⟩
  · have far : ∀ {k : Nat} {p : Addr}, k ≠ i → p ∈ φ k → p ∈ fp' → False := fun {k p} hk q1 q2 => by
      rcases (g2 p q2).1 with q3 | q3
      · exact h2 k i p hk q1 q3
      · obtain ⟨_, o, q4, _⟩ := h1 k p q1
        rw [q3] at q4
        cases q4
    dsimp only at hp hq
    split at hp
    · rename_i ej
      split at hq
      · rename_i ek
        exact hjk (ej.trans ek.symm)
      · rename_i ek
        exact far ek hq hp
    · rename_i ej
      split at hq
      · exact far ej hp hq
      · exact h2 j k p hjk hp hq
  · rcases set_at e1 with ⟨e, rfl, _⟩ | ⟨e, e1⟩
    · rcases set_at e2 with ⟨_, rfl, _⟩ | ⟨e', _⟩
      · subst e
        dsimp only
        rw [if_pos rfl]
        exact g1
      · exact absurd e e'
    · rcases set_at e2 with ⟨e', _⟩ | ⟨_, e2⟩
      · exact absurd e' e
      · dsimp only
        rw [if_neg (Ne.symm e)]
        refine (h3 j x y e1 e2).loc (fun p hp => ?_) ff
        obtain ⟨o, q1, q2, _⟩ := hk j p (Ne.symm e) hp
        rw [q1, q2]
theorem REnv.change {i : Nat} (R : REnv aS K B s F H σ ρ) {x' : Option V} {y' : Sl} (ff : Ex F F') (fh : Ex F' H') (hs : SrcAt aS K s' F' H')
    (h : ∀ fp : List Addr, (∀ p ∈ fp, Free aS B F p ∧ ∃ o, H p = some o ∧ NT o) → (∀ x y, σ[i]? = some x → ρ[i]? = some y → SlOk aS K B F H fp x y) →
      ∃ fp' : List Addr, SlOk aS K B F' H' fp' x' y' ∧ (∀ p ∈ fp', (p ∈ fp ∨ H p = none) ∧ F' p = none ∧ ∃ o, H' p = some o ∧ NT o) ∧ ∀ p o, p ∉ fp → F p = none → aS ≠ some p → H p = some o → nb o = true → H' p = some o ∧ (F' p = none ∨ ∃ vs, o = .tup vs)) (dm : ∀ a, H' a = none → B.h a = none) :
    REnv aS K B s' F' H' (σ.set i x') (ρ.set i y') := by
  obtain ⟨fp, k1, k2, k3⟩ := R.view i
  exact k3 ff fh hs (h fp k1 k2) dm
theorem REnv.slot {i : Nat} {y : Sl} (R : REnv aS K B s F H σ ρ) (h : ρ[i]? = some y) : ∃ fp x, σ[i]? = some x ∧ SlOk aS K B F H fp x y ∧ ∀ p ∈ fp, Free aS B F p ∧ ∃ o, H p = some o ∧ NT o := by
  have hi : i < σ.length := by rw [R.len]; exact (List.getElem?_eq_some_iff.mp h).1
  obtain ⟨φ, h1, _, h3⟩ := R.sl
  exact ⟨φ i, _, List.getElem?_eq_getElem hi, h3 i _ _ (List.getElem?_eq_getElem hi) h, h1 i⟩
theorem REnv.var {i : Nat} (R : REnv aS K B s F H σ ρ) (h : ρ[i]? = some (.im d)) : ∃ v, σ[i]? = some (some v) ∧ Rep K F v d := by
  obtain ⟨fp, x, e, ⟨v, rfl, r⟩, _⟩ := R.slot h
  exact ⟨v, e, r⟩
theorem REnv.own {i : Nat} {l : List D} (R : REnv aS K B s F H σ ρ) (h : ρ[i]? = some (.ow l)) : ∃ a vs, σ[i]? = some (some (.ref a)) ∧ B.h a = none ∧ aS ≠ some a ∧ F a = none ∧ H a = some (.lst vs) ∧ l.length ≤ LIM ∧ Reps K F vs l := by
  obtain ⟨fp, x, e, ⟨a, rfl, rfl, vs, h1, h2, h3⟩, k⟩ := R.slot h
  have k := (k a List.mem_cons_self).1
  exact ⟨a, vs, e, k.nb, k.ns, k.nF, h1, h2, h3⟩
/-- a slot gets something that is no thing of one's own -/
theorem REnv.setNo {i : Nat} {x : Option V} {y : Sl} (R : REnv aS K B s F H σ ρ) (hy : isOw y = false) (r : SlOk aS K B F H [] x y) : REnv aS K B s F H (σ.set i x) (ρ.set i y) :=
  R.change (Ex.refl _) R.ex R.src (fun fp _ _ => ⟨[], r, fun p hp => absurd hp List.not_mem_nil, fun p o _ h1 _ h2 _ => ⟨h2, .inl h1⟩⟩) fun _ h => R.stands h
/-- a slot gets known data -/
theorem REnv.setIm {i : Nat} (R : REnv aS K B s F H σ ρ) (r : Rep K F v d) : REnv aS K B s F H (σ.set i (some v)) (ρ.set i (.im d)) := R.setNo rfl ⟨v, rfl, r⟩
/-- behind a step a slot gets a new list of one's own -/
theorem REnv.setOw {i : Nat} {p : Addr} {vs : List V} {l : List D} (R : REnv aS K B s F H σ ρ) (f : Fr aS F H F' H') (hs : SrcAt aS K s' F' H') (hp : H p = none) (hF : F' p = none) (hH : H' p = some (.lst vs)) (hz : l.length ≤ LIM) (r : Reps K F' vs l) :
    REnv aS K B s' F' H' (σ.set i (some (.ref p))) (ρ.set i (.ow l)) :=
  R.change f.ff f.fh hs (fun fp _ _ => ⟨[p], ⟨p, rfl, rfl, vs, hH, hz, r⟩, fun q hq => by
    cases List.mem_singleton.mp hq
    exact ⟨.inr hp, hF, _, hH, rfl⟩, fun q o _ h1 h2 h3 h4 => f.kq q o h1 h2 h3 h4⟩) fun a h => R.stands (f.dm a h)
theorem SrcAt.keep {p : Addr} {o : HO} (ns : aS ≠ some p) (hp : ∀ u, H p = some u → NT u) (h : SrcAt aS K s F H) : SrcAt aS K s F (upd H p o) := ⟨tabs_upd h.tb hp, h.nf, fun a e => by
  obtain ⟨h1, h2⟩ := h.at' a e
  exact ⟨h1, h2.loc (upd_ne (fun z => ns (by rw [e, z]))) (Ex.refl _)⟩⟩
theorem ex_keep {p : Addr} {o : HO} (e : Ex F H) (h : F p = none) : Ex F (upd H p o) := fun a u q => by
  rw [upd_ne (ne_of_none q h)]
  exact e a u q
theorem set_self {i : Nat} {x : Option V} (h : σ[i]? = some x) : σ.set i x = σ := by
  apply List.ext_getElem?
  intro j
  rw [List.getElem?_set]
  split
  · rename_i e
    subst e
    rw [h]
    split
    · rfl
    · rename_i hlt
      have := (List.getElem?_eq_some_iff.mp h).1
      omega
  · rfl
/-- a list of one's own has changed -/
theorem REnv.mut {i : Nat} {p : Addr} {vs ws : List V} {l m : List D} (R : REnv aS K B s F H σ ρ) (hi : ρ[i]? = some (.ow l)) (hσ : σ[i]? = some (some (.ref p))) (hz : m.length ≤ LIM) (r : Reps K F ws m) :
    REnv aS K B s F (upd H p (.lst ws)) σ (ρ.set i (.ow m)) := by
  obtain ⟨p', vs', hσ', nb, ns, hF, hH, _, _⟩ := R.own hi
  have e : p' = p := by
    rw [hσ] at hσ'
    cases hσ'
    rfl
  subst e
  have R2 := R.change (i := i) (F' := F) (H' := upd H p' (.lst ws)) (x' := some (.ref p')) (y' := .ow m) (Ex.refl _) (ex_keep R.ex hF) (R.src.keep ns fun u e => by rw [hH] at e; cases e; rfl) (fun fp k1 k2 => by
    obtain ⟨a, e1, rfl, _⟩ := k2 _ _ hσ hi
    cases e1
    exact ⟨[p'], ⟨p', rfl, rfl, ws, upd_same, hz, r⟩, fun q hq => by
      cases List.mem_singleton.mp hq
      exact ⟨.inl List.mem_cons_self, hF, _, upd_same, rfl⟩, fun q o hq h1 _ h2 _ => ⟨by rw [upd_ne (fun z => hq (by rw [z]; exact List.mem_cons_self))]; exact h2, .inl h1⟩⟩) fun a h => R.stands (dm_upd a h)
  rw [set_self hσ] at R2
  exact R2
/-- all that stands at some places gets known -/
def knowAll (fp : List Addr) (F H : Hp) : Hp := fun p => if p ∈ fp then H p else F p
theorem knowAll_in {p : Addr} (h : p ∈ fp) : knowAll fp F H p = H p := if_pos h
theorem knowAll_out {p : Addr} (h : p ∉ fp) : knowAll fp F H p = F p := if_neg h
theorem nf_know {T : List (Addr × Str)} (t : LamX.Tabs T H) (n : ∀ p ∈ T, F p.1 = none) (h : ∀ a ∈ fp, ∃ u, H a = some u ∧ NT u) : ∀ p ∈ T, Dl.knowAll fp F H' p.1 = none := fun p hp => by
  have : p.1 ∉ fp := fun z => by
    obtain ⟨ps, h1, _⟩ := t p hp
    obtain ⟨u, h2, h3⟩ := h _ z
    rw [h1] at h2
    cases h2
    cases h3
  rw [knowAll_out this]
  exact n p hp
theorem ex_knownAll (e : Ex F H) : Ex (Dl.knowAll fp F H) H := fun a u q => by
  by_cases h : a ∈ fp
  · rw [knowAll_in h] at q; exact q
  · rw [knowAll_out h] at q; exact e a u q
theorem LsAt.rep {a : Addr} {l : List D} (e : Ex F F') (hF : F' a = H a) (h : LsAt K F H a l) : Rep K F' (.ref a) (.lst l) := by
  obtain ⟨vs, h1, h2, h3⟩ := h
  exact Rep.mk_lst (hF.trans h1) h2 (h3.mono e)
/-- the dict at q, in H, is locked in F -/
def Lkd (F H : Hp) (q : Addr) : Prop := ∃ od u, H q = some u ∧ F q = some (.frz od u)
theorem DlAt.rep {a : Addr} {as : List Addr} {l : List (D × List D)} (e : Ex F F') (hF : Lkd F' H a) (hA : ∀ p ∈ as, F' p = H p) (h : DlAt K F H a as l) : Rep K F' (.ref a) (.dct (l.map fun p => (p.1, .lst p.2))) := by
  obtain ⟨kas, h1, h2, rfl, h4, h5⟩ := h
  obtain ⟨od, u, hu, hF⟩ := hF
  cases h1.symm.trans hu
  refine .dk hF (by rw [List.length_map]; exact h2) ?_ fun i x y e1 e2 => ?_
  · clear h1 h2 h4 hA hu hF
    induction h5 with
    | nil => rfl
    | cons r _ ih => simp only [List.map_cons] at ih ⊢; rw [ih, r.1]
  · rw [List.getElem?_map] at e1 e2
    cases q1 : kas[i]? with
    | none => rw [q1] at e1; cases e1
    | some ka =>
      cases q2 : l[i]? with
      | none => rw [q2] at e2; cases e2
      | some z =>
        rw [q1] at e1
        rw [q2] at e2
        cases e1
        cases e2
        have hp : ∀ {k : List (Key × Addr)} {m : List (D × List D)}, Paired (fun (p : Key × Addr) (q : D × List D) => kD p.1 = q.1 ∧ LsAt K F H p.2 q.2) k m → ∀ {i : Nat} {ka : Key × Addr} {z : D × List D}, k[i]? = some ka → m[i]? = some z → LsAt K F H ka.2 z.2 := by
          intro k m hp
          induction hp with
          | nil => intro i ka z h; simp at h
          | cons r _ ih =>
            intro i ka z h1 h2
            cases i with
            | zero => cases h1; cases h2; exact r.2
            | succ i => exact ih (by simpa using h1) (by simpa using h2)
        exact (hp h5 q1 q2).rep e (hA _ (List.mem_map_of_mem (List.mem_of_getElem? q1)))
def owD : Ow → D
  | .dk l => .dct l
  | .dt l => .dtt l
  | .dl l => .dct (l.map fun p => (p.1, .lst p.2))
  | .ob _ n fs => .obj n fs
  | .od _ n fs f l => .obj n (fs ++ [(f, .dct (l.map fun p => (p.1, .lst p.2)))])
/-- which dict of a thing is to be locked ahead of its being known -/
def lkAt (K : Kx) (F H : Hp) (fp : List Addr) (a : Addr) : Ow → Addr → Prop
  | .dk _, q => q = a
  | .dt _, q => q = a
  | .dl _, q => q = a
  | .ob _ _ _, _ => False
  | .od _ _ fs f _, q => ∃ C dx gs, H a = some (.ins C dx (gs ++ [(f, V.ref q)])) ∧ gs.map (·.1) = fs.map (·.1) ∧ q ∈ fp
theorem DlAt.repL {a : Addr} {as : List Addr} {l : List (D × List D)} (e : Ex F F') (hl : Lkd F' H a) (hF : ∀ p ∈ as, p ≠ a → F' p = H p) (h1 : DlAt K F H a as l) : Rep K F' (.ref a) (.dct (l.map fun p => (p.1, .lst p.2))) := by
  refine h1.rep e hl fun p hp => hF p hp fun z => ?_
  obtain ⟨kas, g1, g2, rfl, g4, g5⟩ := h1
  subst z
  have : ∀ {k : List (Key × Addr)} {m : List (D × List D)}, Paired (fun (p : Key × Addr) (q : D × List D) => kD p.1 = q.1 ∧ LsAt K F H p.2 q.2) k m → p ∈ k.map (·.2) → False := by
    intro k m hp
    induction hp with
    | nil => intro z; exact absurd z List.not_mem_nil
    | cons r _ ih =>
      intro z
      rcases List.mem_cons.mp z with z | z
      · obtain ⟨vs, r1, _⟩ := r.2
        have z' : p = _ := z
        subst z'
        cases g1.symm.trans r1
      · exact ih z
  exact this g5 hp
theorem Lkd.at {a q : Addr} (h : Lkd F H q) (e : a = q) : Lkd F H a := e ▸ h
theorem OwAt.rep {a q : Addr} {o : Ow} (e : Ex F F') (hl : Lkd F' H q) (hF : ∀ p ∈ fp, p ≠ q → F' p = H p) (hq : lkAt K F H fp a o q) (h : OwAt K B F H fp a o) : Rep K F' (.ref a) (owD o) := by
  cases o with
  | dk l =>
    obtain ⟨rfl, kvs, h1, h2, h3, h4⟩ := h
    have hm := h4.mono e
    obtain ⟨od, u, hu, hl⟩ := hl.at hq.symm
    cases h1.symm.trans hu
    exact .dk hl h2 h3 fun j x y e1 e2 => hm.at j _ _ (by rw [List.getElem?_map, e1]; rfl) (by rw [List.getElem?_map, e2]; rfl)
  | dt l =>
    obtain ⟨rfl, kvs, h1, h2, h3, h4⟩ := h
    have hm := h4.mono e
    obtain ⟨od, u, hu, hl⟩ := hl.at hq.symm
    cases h1.symm.trans hu
    exact .dt hl h2 h3 fun j x y e1 e2 => hm.at j _ _ (by rw [List.getElem?_map, e1]; rfl) (by rw [List.getElem?_map, e2]; rfl)
  | dl l =>
    obtain ⟨as, rfl, h1⟩ := h
    have hq : q = a := hq
    subst hq
    exact h1.repL e hl fun p hp => hF p (List.mem_cons_of_mem _ hp)
  | ob t n fs => exact hq.elim
  | od t n fs f l =>
    obtain ⟨C, dx, gs, q', as, rfl, h1, h2, h3, h7, h8, h9⟩ := h
    obtain ⟨C', dx', gs', g1, g2, _⟩ := hq
    have hgs : gs' = gs ∧ q = q' := by
      have e0 := h2.symm.trans g1
      injection e0 with e0
      injection e0 with _ _ e0
      have := List.append_inj' e0 rfl
      refine ⟨this.1.symm, ?_⟩
      have := this.2
      injection this with this _
      injection this with _ this
      injection this with this
      exact this.symm
    obtain ⟨rfl, rfl⟩ := hgs
    have hqx : H q = some (.dK _) := h9.choose_spec.1
    have na : a ≠ q := fun z => by rw [z, hqx] at h2; cases h2
    have nd : dx ≠ q := fun z => by rw [z, hqx] at h3; cases h3
    have hr := h9.repL e hl (fun p hp => hF p (List.mem_cons_of_mem _ (List.mem_cons_of_mem _ (List.mem_cons_of_mem _ hp))))
    have hm := (h8.mono e).append (.cons hr .nil)
    refine .obj h1.1 ((hF _ List.mem_cons_self na).trans h2) ((hF _ (List.mem_cons_of_mem _ List.mem_cons_self) nd).trans h3) (by rw [List.map_append, List.map_append, h7]; rfl) fun j x y e1 e2 => hm.at j _ _ ?_ ?_
    · have := congrArg (Option.map Prod.snd) e1
      rw [← List.getElem?_map, List.map_append] at this
      exact this
    · have := congrArg (Option.map Prod.snd) e2
      rw [← List.getElem?_map, List.map_append] at this
      exact this
theorem upd_selfH {q : Addr} {o : HO} (h : H q = some o) : upd H q o = H := by
  funext p
  by_cases z : p = q
  · rw [z, upd_same, h]
  · rw [upd_ne z]
/-- a thing of one's own is let go; what stands at q, one of its places, is another thing from here on -/
theorem REnv.letGo {i : Nat} {d : D} (R : REnv aS K B s F H σ ρ) {y : Sl} {p q : Addr} (o' : HO) (hi : ρ[i]? = some y) (hσ : σ[i]? = some (some (.ref p))) (hq : ∀ fp, SlOk aS K B F H fp (some (.ref p)) y → q ∈ fp)
    (h : ∀ fp F', SlOk aS K B F H fp (some (.ref p)) y → Ex F F' → (∀ a ∈ fp, F' a = upd H q o' a) → Rep K F' (.ref p) d) :
    ∃ F', Ex F F' ∧ REnv aS K B s F' (upd H q o') σ (ρ.set i (.im d)) := by
  obtain ⟨fp, k1, k2, k3⟩ := R.view i
  have hs := k2 _ _ hσ hi
  have hq := hq fp hs
  have nq := (k1 q hq).1
  have e1 : Ex F (knowAll fp F (upd H q o')) := fun a u e => by
    have : a ∉ fp := fun z => by
      have := (k1 a z).1.nF
      rw [e] at this
      cases this
    rw [knowAll_out this]
    exact e
  have e2 : Ex (knowAll fp F (upd H q o')) (upd H q o') := ex_knownAll (ex_keep R.ex nq.nF)
  have R2 := k3 (F' := knowAll fp F (upd H q o')) (H' := upd H q o') (x' := some (.ref p)) (y' := .im d) e1 e2 ⟨tabs_upd R.src.tb fun u e => by
    obtain ⟨_, o, h1, h2⟩ := k1 q hq
    rw [h1] at e
    cases e
    exact h2, nf_know R.src.tb R.src.nf fun a ha => (k1 a ha).2, fun a ha => by
    obtain ⟨h1, h2⟩ := R.src.at' a ha
    exact ⟨by rw [knowAll_out (fun z => (k1 a z).1.ns ha)]; exact h1, h2.loc (upd_ne (fun z => nq.ns (by rw [ha, z]))) e1⟩⟩ ⟨[], ⟨_, rfl, h fp _ hs e1 fun q hq => knowAll_in hq⟩, fun q hq => absurd hq List.not_mem_nil, fun a u ha f1 _ f2 _ => ⟨by rw [upd_ne (fun z => ha (by rw [z]; exact hq))]; exact f2, .inl (by
    rw [knowAll_out ha]
    exact f1)⟩⟩ fun a h => R.stands (dm_upd a h)
  rw [set_self hσ] at R2
  exact ⟨_, e1, R2⟩
theorem REnv.freeze {i : Nat} {l : List D} (R : REnv aS K B s F H σ ρ) (hi : ρ[i]? = some (.ow l)) : ∃ F', Ex F F' ∧ REnv aS K B s F' H σ (ρ.set i (.im (.lst l))) := by
  obtain ⟨p, vs, hσ, nb, ns, hF, hH, hz, r⟩ := R.own hi
  have := R.letGo (q := p) (d := .lst l) (.lst vs) hi hσ (fun fp hg => by
    obtain ⟨a, e1, rfl, h⟩ := hg
    cases e1
    exact List.mem_cons_self) fun fp F' hg e hF' => by
      obtain ⟨a, e1, rfl, h⟩ := hg
      cases e1
      exact h.rep e (by rw [hF' _ List.mem_cons_self, upd_selfH hH])
  rw [upd_selfH hH] at this
  exact this
theorem OwAt.self {a : Addr} {o : Ow} (h : OwAt K B F H fp a o) : a ∈ fp := by
  cases o with
  | dk l => rw [h.1]; exact List.mem_cons_self
  | dt l => rw [h.1]; exact List.mem_cons_self
  | dl l => obtain ⟨as, rfl, _⟩ := h; exact List.mem_cons_self
  | ob t n fs => obtain ⟨C, dx, gs, rfl, _⟩ := h; exact List.mem_cons_self
  | od t n fs f l => obtain ⟨C, dx, gs, q, as, rfl, _⟩ := h; exact List.mem_cons_self
/-- any thing of one's own stands where it is told -/
theorem REnv.ownO {i : Nat} {o : Ow} (R : REnv aS K B s F H σ ρ) (h : ρ[i]? = some (.oo o)) : ∃ a fp, σ[i]? = some (some (.ref a)) ∧ OwAt K B F H fp a o ∧ ∀ p ∈ fp, Free aS B F p ∧ ∃ o, H p = some o ∧ NT o := by
  obtain ⟨fp, x, e, ⟨a, rfl, r⟩, k⟩ := R.slot h
  exact ⟨a, fp, e, r, k⟩
/-- such a thing has changed: at its places, and with new ones -/
theorem REnv.mutO {i : Nat} {p : Addr} {o : Ow} {y' : Sl} (R : REnv aS K B s F H σ ρ) (hi : ρ[i]? = some (.oo o)) (hσ : σ[i]? = some (some (.ref p))) (ff : Ex F F') (fh : Ex F' H') (hs : SrcAt aS K s' F' H')
    (h : ∀ fp, OwAt K B F H fp p o → (∀ p ∈ fp, Free aS B F p ∧ ∃ o, H p = some o ∧ NT o) → ∃ fp', SlOk aS K B F' H' fp' (some (.ref p)) y' ∧ (∀ q ∈ fp', (q ∈ fp ∨ H q = none) ∧ F' q = none ∧ ∃ u, H' q = some u ∧ NT u) ∧ ∀ q u, q ∉ fp → F q = none → aS ≠ some q → H q = some u → nb u = true → H' q = some u ∧ (F' q = none ∨ ∃ vs, u = .tup vs)) (dm : ∀ a, H' a = none → B.h a = none) :
    REnv aS K B s' F' H' σ (ρ.set i y') := by
  have R2 := R.change (i := i) (x' := some (.ref p)) (y' := y') ff fh hs (fun fp k1 k2 => by
    obtain ⟨a, e, r⟩ := k2 _ _ hσ hi
    cases e
    exact h fp r k1) dm
  rw [set_self hσ] at R2
  exact R2
/-- a thing of one's own with a dict is let go: the dict is locked -/
theorem REnv.freezeO {i : Nat} {o : Ow} (R : REnv aS K B s F H σ ρ) (hi : ρ[i]? = some (.oo o)) (hno : ∀ t n fs, o ≠ .ob t n fs) : ∃ q u, H q = some u ∧ Mut (some u) ∧ ∀ od, ∃ F', Ex F F' ∧ REnv aS K B s F' (upd H q (.frz od u)) σ (ρ.set i (.im (owD o))) := by
  obtain ⟨p, fp, hσ, r, k⟩ := R.ownO hi
  have hq : ∃ q u, H q = some u ∧ Mut (some u) ∧ ∀ fp, OwAt K B F H fp p o → q ∈ fp ∧ lkAt K F H fp p o q := by
    cases o with
    | dk l =>
      obtain ⟨rfl, kvs, h1, _⟩ := r
      exact ⟨p, _, h1, trivial, fun fp h => ⟨h.self, rfl⟩⟩
    | dt l =>
      obtain ⟨rfl, kvs, h1, _⟩ := r
      exact ⟨p, _, h1, trivial, fun fp h => ⟨h.self, rfl⟩⟩
    | dl l =>
      obtain ⟨as, rfl, kas, h1, _⟩ := r
      exact ⟨p, _, h1, trivial, fun fp h => ⟨h.self, rfl⟩⟩
    | ob t n fs => exact absurd rfl (hno t n fs)
    | od t n fs f l =>
      obtain ⟨C, dx, gs, q, as, rfl, h1, h2, h3, h7, h8, kas, h9, _⟩ := r
      refine ⟨q, _, h9, trivial, fun fp h => ?_⟩
      obtain ⟨C', dx', gs', q', as', rfl, g1, g2, g3, g7, g8, g9⟩ := h
      have e0 := h2.symm.trans g2
      injection e0 with e0
      injection e0 with _ _ e0
      have := (List.append_inj' e0 rfl).2
      injection this with this _
      injection this with _ this
      injection this with this
      have hm : q ∈ p :: dx' :: q' :: as' := by rw [this]; exact List.mem_cons_of_mem _ (List.mem_cons_of_mem _ List.mem_cons_self)
      exact ⟨hm, C, dx, gs, h2, h7, hm⟩
  obtain ⟨q, u, hu, mu, hq⟩ := hq
  refine ⟨q, u, hu, mu, fun od => R.letGo (q := q) (.frz od u) hi hσ (fun fp hg => ?_) fun fp F' hg e hF' => ?_⟩
  · obtain ⟨a, e1, h⟩ := hg
    cases e1
    exact (hq fp h).1
  · obtain ⟨a, e1, h⟩ := hg
    cases e1
    obtain ⟨h1, h2⟩ := hq fp h
    exact h.rep e ⟨od, u, hu, by rw [hF' q h1, upd_same]⟩ (fun p hp hne => by rw [hF' p hp, upd_ne hne]) h2
theorem REnv.since {kk : Hp} (R : REnv aS K B s F H σ ρ) (h : Ex kk F) : REnv aS K { B with k := kk } s F H σ ρ := by
  obtain ⟨φ, h1, h2, h3⟩ := R.sl
  refine ⟨R.fr, h, R.src, R.len, φ, fun i p hp => ⟨⟨(h1 i p hp).1.nb, (h1 i p hp).1.ns, (h1 i p hp).1.nF⟩, (h1 i p hp).2⟩, h2, fun i x y e1 e2 => ?_⟩
  have q := h3 i x y e1 e2
  cases y with
  | oo o => cases o <;> exact q
  | _ => exact q
theorem REnv.back {kk : Hp} (R : REnv aS K { B with k := kk } s F H σ ρ) (h : Ex B.k kk) : REnv aS K B s F H σ ρ := by
  obtain ⟨φ, h1, h2, h3⟩ := R.sl
  refine ⟨R.fr, h.trans R.kn, R.src, R.len, φ, fun i p hp => ⟨⟨(h1 i p hp).1.nb, (h1 i p hp).1.ns, (h1 i p hp).1.nF⟩, (h1 i p hp).2⟩, h2, fun i x y e1 e2 => ?_⟩
  have q := h3 i x y e1 e2
  cases y with
  | oo o => cases o <;> exact q
  | _ => exact q
end
end Dl

/-! Dl, part B: what a piece of code comes to, over a written context; expressions. -/
namespace Dl
open PySem PySem.Spec PyProof.Rows L2
open Evl (Ex)

/-! ### answers that may draw from the source, or be stuck -/
inductive Res (α : Type) where
  | ok (a : α) (s : List D)
  | stuck
def M (α : Type) := List D → Res α
instance : Monad M where
  pure a := fun s => .ok a s
  bind m f := fun s => match m s with
    | .ok a s' => f a s'
    | .stuck => .stuck
instance : LawfulMonad M := LawfulMonad.mk' M (fun {α} x => by
    funext s
    show (match x s with | Res.ok a s' => Res.ok a s' | Res.stuck => Res.stuck) = x s
    cases x s <;> rfl) (fun x f => rfl) (fun x f g => by
    funext s
    show (match (match x s with | Res.ok a s' => f a s' | Res.stuck => Res.stuck) with | Res.ok a s' => g a s' | Res.stuck => Res.stuck) = (match x s with | Res.ok a s' => (match f a s' with | Res.ok a s' => g a s' | Res.stuck => Res.stuck) | Res.stuck => Res.stuck)
    cases x s <;> rfl)
def stuck {α : Type} : M α := fun _ => .stuck
theorem stuck_bind {α β : Type} (f : α → M β) : (stuck : M α) >>= f = stuck := rfl
def ofO {α : Type} : Option α → M α
  | some a => pure a
  | none => stuck
def Okk {α : Type} (r : Res α) (P : α → List D → Prop) : Prop := match r with
  | .ok a s => P a s
  | .stuck => False
theorem m_ext {α : Type} {m m' : M α} {s : List D} {P : α → List D → Prop} (h : Okk (m s) P) (e : m = m') : Okk (m' s) P := e ▸ h
theorem Okk.imp {α : Type} {r : Res α} {P Q : α → List D → Prop} (h : Okk r P) (k : ∀ a s, P a s → Q a s) : Okk r Q := by
  cases r with
  | ok a s => exact k a s h
  | stuck => exact h
theorem Okk.bind {α β : Type} {m : M α} {f : α → M β} {s : List D} {P : β → List D → Prop} (h : Okk ((m >>= f) s) P) : Okk (m s) fun a s' => Okk (f a s') P := by
  show Okk (m s) _
  have h' : Okk (match m s with
    | .ok a s' => f a s'
    | .stuck => .stuck) P := h
  cases e : m s with
  | ok a s' =>
    rw [e] at h'
    exact h'
  | stuck =>
    rw [e] at h'
    exact h'
theorem Okk.ofO {α : Type} {o : Option α} {s : List D} {P : α → List D → Prop} (h : Okk (ofO o s) P) : ∃ a, o = some a ∧ P a s := by
  cases o with
  | some a => exact ⟨a, rfl, h⟩
  | none => exact h.elim

/-! ### the written context -/
/-- a class whose instances are data -/
structure ClsOk (K : PySem.W.Frag) (C : Addr) : Prop where
  cl : Cls K C
  ha : PySem.W.findIn K (.ref C) "__class__" = some (some (.builtin "object.__class__"))
  hn : PySem.W.specialIn K (.builtin "object.__class__") "__get__" = some (some (.builtin "getset_descriptor.__get__"))
  ht : PySem.W.takesIn K (.builtin "object.__class__") = some true
  hm : PySem.W.mroIn K C (.type "object") = some true
  ki : PySem.W.kitOne K (.ref C) (.type "int") = some false
  kb : PySem.W.kitOne K (.ref C) (.type "bool") = some false
  ks : PySem.W.kitOne K (.ref C) (.type "str") = some false
  kt : PySem.W.kitOne K (.ref C) (.type "tuple") = some false
  kl : PySem.W.kitOne K (.ref C) (.type "list") = some false
  kd : PySem.W.kitOne K (.ref C) (.type "dict") = some false
/-- what the whole program has -/
structure Gx where
  P : Program
  w : World
  K : Kx
  mg : Str → Option Value
  base : Heap
  cls : ∀ n C, K.cm n = some C → ClsOk K.K C
/-- .. and a def's body, or a comprehension's block -/
structure Ct where
  g : Gx
  N : List Str
  sc : Scope
  fn : Str → Bool
  k : Nat
  /-- the code object, its table, its name, where a lambda is made -/
  lam : Option (Addr × Addr × Str) := none
  /-- in the suite of an except clause -/
  hot : Bool := false
  /-- the error that the suite holds: its address, class, dict -/
  ex : Option (Addr × Value × Option Addr) := none
  /-- a def's body, not a comprehension's block -/
  top : Bool := false
  /-- what is wished of an error that leaves -/
  W : WX := fun _ _ _ _ => False
theorem takes_never {X : Cx} : Takes X (fun _ _ _ _ => False) := fun _ _ ⟨_, _, _, _, _, _, _, _, _, _, _, _, _, _, _, _, w⟩ => w.elim
abbrev Ct.K (c : Ct) : Kx := c.g.K
abbrev Ct.mg (c : Ct) : Str → Option Value := c.g.mg
/-- room for calls, whatever is handled -/
structure RoomC (k : Nat) (A : Around) : Prop where
  dp : A.depth + 3 * k + 5 < recursionLimit
  un : A.units + 16 * k + 200 < cLine
theorem RoomC.depth {k : Nat} {A : Around} (r : RoomC k A) : A.depth < recursionLimit := by have := r.dp; omega
theorem RoomC.units {k : Nat} {A : Around} (r : RoomC k A) : A.units + 64 < cLine := by have := r.un; omega
theorem RoomC.units0 {k : Nat} {A : Around} (r : RoomC k A) : A.units < cLine := by have := r.un; omega
structure Ct.Is (c : Ct) (X : Cx) : Prop where
  P : X.prog = c.g.P
  w : X.w = c.g.w
  K : X.K = c.g.K.K
  mg : X.mg = c.g.mg
  base : X.base = c.g.base
  N : X.N = c.N
  sc : X.env.scope = c.sc
  fn : X.fn = c.fn
  calm : c.hot = false → X.calm = true
  room : RoomC c.k X.A
  hd : c.hot = false → X.A.handled = none
  nd : X.N.Nodup
  quiet : PassesOwn (model X.prog X.w) X.A X.env X.xe
  lam : ∀ cc P q, c.lam = some (cc, P, q) → X.env.code = .ref cc ∧ X.env.qual ++ "<lambda>" = q ∧ LamX.TabB X.base X.mg cc P ∧ (P, q) ∈ c.K.T ∧ ∀ p ∈ c.K.T, p.1 = P → p.2 = q
  ex : ∀ a cls d, c.ex = some (a, cls, d) → ∃ (X0 : Cx) (oe : Obj) (pn : List (Addr × Obj)), X = X0.suite a ((a, oe) :: pn) ∧ Zc cls d oe ∧ ∃ vs, oe.data = .fields vs
  tp : c.top = true → X.stack = X.env :: X.outer ∧ X.env.frame = some X.env.locals
  tk : Takes X c.W
theorem Ct.Is.roomC {c : Ct} {X : Cx} (I : c.Is X) (h : c.hot = false) : Room c.k X.A := ⟨I.hd h, I.room.dp, I.room.un⟩
/-- no suite of an except clause -/
class Cool (c : Ct) : Prop where
  h : c.hot = false
instance {g : Gx} {N : List Str} {sc : Scope} {fn : Str → Bool} {k : Nat} {lam : Option (Addr × Addr × Str)} {ex : Option (Addr × Value × Option Addr)} {top : Bool} {W : WX} : Cool ⟨g, N, sc, fn, k, lam, false, ex, top, W⟩ := ⟨rfl⟩
/-- a comprehension's block -/
abbrev Ct.blk (c : Ct) (scope : Scope) : Ct := { c with sc := relS scope c.sc, fn := fun x => scope.names.lookup x == some .cell, lam := none, ex := none, top := false, W := fun _ _ _ _ => False }
instance {c : Ct} {scope : Scope} [Cool c] : Cool (c.blk scope) := ⟨Cool.h (c := c)⟩

/-! ### readings over data -/
section
variable (K : Kx)
/-- pure, known -/
def EvP (te : TE) (ρ : List Sl) (d : D) : Prop := ∀ (aS : Option Addr) (B : Bs) (s : List D) (F H : Hp) (σ : L2.St), REnv aS K B s F H σ ρ → ∀ Q : VK, (∀ v F' H', Fp F H F' H' → Rep K F' v d → Q v H') → te σ H Q
/-- pure, known or one's own -/
def EvB (te : TE) (ρ : List Sl) (d : D) : Prop := ∀ (aS : Option Addr) (B : Bs) (s : List D) (F H : Hp) (σ : L2.St), REnv aS K B s F H σ ρ → ∀ Q : VK, (∀ v F' H', Fp F H F' H' → BRep aS K F' H' v d → Q v H') → te σ H Q
/-- with draws, known -/
def EvM {α : Type} (te : TE) (ρ : List Sl) (enc : α → D) (m : M α) : Prop := ∀ (aS : Option Addr) (B : Bs) (s : List D) (F H : Hp) (σ : L2.St), REnv aS K B s F H σ ρ → ∀ Q : VK,
  Okk (m s) (fun a s' => ∀ v F' H', Fr aS F H F' H' → SrcAt aS K s' F' H' → Rep K F' v (enc a) → Q v H') → te σ H Q
/-- with draws, known or one's own -/
def EvN {α : Type} (te : TE) (ρ : List Sl) (enc : α → D) (m : M α) : Prop := ∀ (aS : Option Addr) (B : Bs) (s : List D) (F H : Hp) (σ : L2.St), REnv aS K B s F H σ ρ → ∀ Q : VK,
  Okk (m s) (fun a s' => ∀ v F' H', Fr aS F H F' H' → SrcAt aS K s' F' H' → BRep aS K F' H' v (enc a) → Q v H') → te σ H Q
/-- with draws, a new list that nobody else knows -/
def EvO {α : Type} (te : TE) (ρ : List Sl) (enc : α → List D) (m : M α) : Prop := ∀ (aS : Option Addr) (B : Bs) (s : List D) (F H : Hp) (σ : L2.St), REnv aS K B s F H σ ρ → ∀ Q : VK,
  Okk (m s) (fun a s' => ∀ p vs F' H', Fr aS F H F' H' → SrcAt aS K s' F' H' → H p = none → aS ≠ some p → F' p = none → H' p = some (.lst vs) → (enc a).length ≤ LIM → Reps K F' vs (enc a) → Q (.ref p) H') → te σ H Q
/-- pure, a new list -/
def EvL (te : TE) (ρ : List Sl) (l : List D) : Prop := ∀ (aS : Option Addr) (B : Bs) (s : List D) (F H : Hp) (σ : L2.St), REnv aS K B s F H σ ρ → ∀ Q : VK,
  (∀ p vs F' H', Fp F H F' H' → H p = none → F' p = none → H' p = some (.lst vs) → l.length ≤ LIM → Reps K F' vs l → Q (.ref p) H') → te σ H Q
/-- tests -/
def EvT (tt : TT) (ρ : List Sl) (b : Bool) : Prop := ∀ (aS : Option Addr) (B : Bs) (s : List D) (F H : Hp) (σ : L2.St), REnv aS K B s F H σ ρ → ∀ Q : Bool → Hp → Prop, (∀ F' H', Fp F H F' H' → Q b H') → tt σ H Q
def EvTM (tt : TT) (ρ : List Sl) (m : M Bool) : Prop := ∀ (aS : Option Addr) (B : Bs) (s : List D) (F H : Hp) (σ : L2.St), REnv aS K B s F H σ ρ → ∀ Q : Bool → Hp → Prop, Okk (m s) (fun b s' => ∀ F' H', Fr aS F H F' H' → SrcAt aS K s' F' H' → Q b H') → tt σ H Q
/-- arguments -/
def EvA (ta : TA) (ρ : List Sl) (ds : List D) : Prop := ∀ (aS : Option Addr) (B : Bs) (s : List D) (F H : Hp) (σ : L2.St), REnv aS K B s F H σ ρ → ∀ Q : List V → Hp → Prop, (∀ vs F' H', Fp F H F' H' → Paired (BRep aS K F' H') vs ds → Q vs H') → ta σ H Q
def EvAM {α : Type} (ta : TA) (ρ : List Sl) (enc : α → List D) (m : M α) : Prop := ∀ (aS : Option Addr) (B : Bs) (s : List D) (F H : Hp) (σ : L2.St), REnv aS K B s F H σ ρ → ∀ Q : List V → Hp → Prop,
  Okk (m s) (fun a s' => ∀ vs F' H', Fr aS F H F' H' → SrcAt aS K s' F' H' → Paired (BRep aS K F' H') vs (enc a) → Q vs H') → ta σ H Q
end

/-! ### the same of a piece of code, whatever context it runs in -/
section
variable (c : Ct) (e : Expr) (ρ : List Sl)
def DP (d : D) : Prop := ∃ t, (∀ X, c.Is X → PE X e t) ∧ EvP c.K t ρ d
def DB (d : D) : Prop := ∃ t, (∀ X, c.Is X → PE X e t) ∧ EvB c.K t ρ d
def DM {α : Type} (enc : α → D) (m : M α) : Prop := ∃ t, (∀ X, c.Is X → PE X e t) ∧ EvM c.K t ρ enc m
def DN {α : Type} (enc : α → D) (m : M α) : Prop := ∃ t, (∀ X, c.Is X → PE X e t) ∧ EvN c.K t ρ enc m
def DO {α : Type} (enc : α → List D) (m : M α) : Prop := ∃ t, (∀ X, c.Is X → PE X e t) ∧ EvO c.K t ρ enc m
def DL (l : List D) : Prop := ∃ t, (∀ X, c.Is X → PE X e t) ∧ EvL c.K t ρ l
def DT (b : Bool) : Prop := ∃ t, (∀ X, c.Is X → PT X e t) ∧ EvT c.K t ρ b
def DTM (m : M Bool) : Prop := ∃ t, (∀ X, c.Is X → PT X e t) ∧ EvTM c.K t ρ m
def DWM (m : M Bool) : Prop := ∃ t, (∀ X, c.Is X → PW X e t) ∧ EvTM c.K t ρ m
def DA (es : List Expr) (ds : List D) : Prop := ∃ t, (∀ X, c.Is X → PA X es t) ∧ EvA c.K t ρ ds
def DAM {α : Type} (es : List Expr) (enc : α → List D) (m : M α) : Prop := ∃ t, (∀ X, c.Is X → PA X es t) ∧ EvAM c.K t ρ enc m
end

/-- no star ahead of it -/
def NoStar (e : Expr) : Prop := ∀ (es : List Expr) (env : Env), starEach (e :: es) env = (false, eval e env) :: starEach es env
section
variable {c : Ct} {e a b : Expr} {es : List Expr} {ρ : List Sl} {d d1 d2 : D} {ds l : List D} {α β γ : Type} {enc : α → D} {m : M α} {pos p2 : Pos} {x : Str} {aS : Option Addr} {K : Kx} {F H : Hp} {s : List D} {σ : L2.St} {B : Bs}

/-! ### from one form to another -/
theorem DP.toM {x : α} (h : DP c e ρ (enc x)) : DM c e ρ enc (pure x) := by
  obtain ⟨t, h1, h2⟩ := h
  exact ⟨t, h1, fun aS B s F H σ R Q q => h2 aS B s F H σ R Q fun v F' H' f r => q v F' H' f.fr (R.src.stepP f) r⟩
theorem DB.toN {x : α} (h : DB c e ρ (enc x)) : DN c e ρ enc (pure x) := by
  obtain ⟨t, h1, h2⟩ := h
  exact ⟨t, h1, fun aS B s F H σ R Q q => h2 aS B s F H σ R Q fun v F' H' f r => q v F' H' f.fr (R.src.stepP f) r⟩
theorem DM.toN (h : DM c e ρ enc m) : DN c e ρ enc m := by
  obtain ⟨t, h1, h2⟩ := h
  exact ⟨t, h1, fun aS B s F H σ R Q q => h2 aS B s F H σ R Q (q.imp fun a s' k v F' H' f hs r => k v F' H' f hs (.of r))⟩
theorem DO.toM {enc : α → List D} (h : DO c e ρ enc m) : DM c e ρ (fun a => .lst (enc a)) m := by
  obtain ⟨t, h1, h2⟩ := h
  refine ⟨t, h1, fun aS B s F H σ R Q q => h2 aS B s F H σ R Q (q.imp fun a s' k p vs F' H' f hs hp ns hF hH hz r => k _ (upd F' p (.lst vs)) H' ?_ ?_ (Rep.mk_lst upd_same hz (r.mono (Ex.new hF))))⟩
  · refine ⟨f.ff.trans (Ex.new hF), Ex.freeze f.fh hH, fun b o h3 h4 h5 h8 => ?_, f.dm⟩
    obtain ⟨h6, h7⟩ := f.kq b o h3 h4 h5 h8
    exact ⟨h6, by rw [upd_ne (ne_of_none h5 hp)]; exact h7⟩
  · refine ⟨hs.tb, nf_upd hs.tb hs.nf (fun u e => by rw [hH] at e; cases e; rfl), fun b e => ?_⟩
    obtain ⟨h3, h4⟩ := hs.at' b e
    exact ⟨by rw [upd_ne (fun z => ns (by rw [e, z]))]; exact h3, h4.loc rfl (Ex.new hF)⟩
theorem DP.eq (h : DP c e ρ d) (q : d = d1) : DP c e ρ d1 := q ▸ h
theorem DT.eq {b b1 : Bool} (h : DT c e ρ b) (q : b = b1) : DT c e ρ b1 := q ▸ h

/-! ### names, constants -/
theorem dp_var (i : Nat) (hN : c.N[i]? = some x) (hv : Vis c.sc x) (hρ : ρ[i]? = some (.im d)) (hd : (x == ("__debug__" : Str)) = false := by decide) (hcd : (x == ("__classdict__" : Str)) = false := by decide) : DP c (.Name x pos) ρ d :=
  ⟨tVar i, fun X I => pe_var (by rw [I.N]; exact hN) (by rw [I.sc]; exact hv) hd hcd, fun aS B s F H σ R Q q => by
    obtain ⟨v, e, r⟩ := R.var hρ
    exact ⟨v, e, q v F H (Fp.refl R.ex) r⟩⟩
/-- a list of one's own, looked at -/
theorem db_own (i : Nat) (hN : c.N[i]? = some x) (hv : Vis c.sc x) (hρ : ρ[i]? = some (.ow l)) (hd : (x == ("__debug__" : Str)) = false := by decide) (hcd : (x == ("__classdict__" : Str)) = false := by decide) : DB c (.Name x pos) ρ (.lst l) :=
  ⟨tVar i, fun X I => pe_var (by rw [I.N]; exact hN) (by rw [I.sc]; exact hv) hd hcd, fun aS B s F H σ R Q q => by
    obtain ⟨a, vs, e, nb, ns, hF, hH, hz, r⟩ := R.own hρ
    exact ⟨_, e, q _ F H (Fp.refl R.ex) (.ow ns hF hH hz r)⟩⟩
theorem dp_int {i : Int} {j} : DP c (.Constant (.int i) j pos) ρ (.int i) := ⟨_, fun X I => pe_int, fun aS B s F H σ R Q q => q _ F H (Fp.refl R.ex) (.int i)⟩
theorem dp_bl {i : Bool} {j} : DP c (.Constant (.bool i) j pos) ρ (.bl i) := ⟨_, fun X I => pe_bl, fun aS B s F H σ R Q q => q _ F H (Fp.refl R.ex) (.bl i)⟩
theorem dp_non {j} : DP c (.Constant .none j pos) ρ .non := ⟨_, fun X I => pe_non, fun aS B s F H σ R Q q => q _ F H (Fp.refl R.ex) .non⟩
theorem dp_str {i : Str} {j} : DP c (.Constant (.str i) j pos) ρ (.str i) := ⟨_, fun X I => pe_str, fun aS B s F H σ R Q q => q _ F H (Fp.refl R.ex) (.str i)⟩
theorem gl_of {X : Cx} (I : c.Is X) (h : c.sc.names.lookup x = some .globalImplicit) : Gl X x := by
  show X.env.scope.names.lookup x = _
  rw [I.sc]
  exact h
/-- a module's constant int, text -/
theorem dp_glob {i : Int} {t : Tok} (hg : c.sc.names.lookup x = some .globalImplicit) (hm : c.mg x = some (.int i t)) (hd : (x == ("__debug__" : Str)) = false := by decide) : DP c (.Name x pos) ρ (.int i) :=
  ⟨_, fun X I => pe_glob (gl_of I hg) (by rw [I.mg]; exact hm) (v := .int i) ⟨t, rfl⟩ hd, fun aS B s F H σ R Q q => q _ F H (Fp.refl R.ex) (.int i)⟩
/-! ### operators by what they do to data -/
/-- r, on data d1 and d2, gives d -/
def Op2 (K : Kx) (r : R2) (d1 d2 d : D) : Prop := ∀ (aS : Option Addr) (F H : Hp) (v w : V), Ex F H → BRep aS K F H v d1 → BRep aS K F H w d2 → ∀ Q : VK, (∀ u F' H', Fp F H F' H' → Rep K F' u d → Q u H') → r v w H Q
def OpC (K : Kx) (r : List V → Hp → VK → Prop) (ds : List D) (d : D) : Prop := ∀ (aS : Option Addr) (F H : Hp) (vs : List V), Ex F H → Paired (BRep aS K F H) vs ds → ∀ Q : VK, (∀ u F' H', Fp F H F' H' → Rep K F' u d → Q u H') → r vs H Q
def OpCL (K : Kx) (r : List V → Hp → VK → Prop) (ds : List D) (l : List D) : Prop := ∀ (aS : Option Addr) (F H : Hp) (vs : List V), Ex F H → Paired (BRep aS K F H) vs ds → ∀ Q : VK,
  (∀ p ws F' H', Fp F H F' H' → H p = none → F' p = none → H' p = some (.lst ws) → l.length ≤ LIM → Reps K F' ws l → Q (.ref p) H') → r vs H Q
theorem evm_op {ta tb : TE} {r : R2} {e1 : α → D} {e2 : β → D} {e3 : γ → D} {ma : M α} {mb : M β} {f : α → β → M γ} (ha : EvN K ta ρ e1 ma) (hb : EvN K tb ρ e2 mb)
    (ho : ∀ (a : α) (b : β) (s : List D) (P : γ → List D → Prop), Okk (f a b s) P → ∃ g, P g s ∧ Op2 K r (e1 a) (e2 b) (e3 g)) : EvM K (tOp r ta tb) ρ e3 (ma >>= fun a => mb >>= fun b => f a b) := fun aS B s F H σ R Q q =>
  ha aS B s F H σ R _ (q.bind.imp fun a s1 q1 v F1 H1 f1 hs1 r1 => hb aS B s1 F1 H1 σ (R.step f1 hs1) _ (q1.bind.imp fun b s2 q2 w F2 H2 f2 hs2 r2 => by
    obtain ⟨g, q3, op⟩ := ho a b s2 _ q2
    exact op aS F2 H2 v w f2.fh (r1.step f2) r2 Q fun u F3 H3 f3 r3 => q3 u F3 H3 ((f1.trans f2).trans f3.fr) (hs2.stepP f3) r3))
theorem evm_call {ta : TA} {r : List V → Hp → VK → Prop} {eA : α → List D} {eR : γ → D} {f : α → M γ} (ha : EvAM K ta ρ eA m)
    (ho : ∀ (a : α) (s : List D) (P : γ → List D → Prop), Okk (f a s) P → ∃ g, P g s ∧ OpC K r (eA a) (eR g)) : EvM K (tCB r ta) ρ eR (m >>= f) := fun aS B s F H σ R Q q =>
  ha aS B s F H σ R _ (q.bind.imp fun a s1 q1 v F1 H1 f1 hs1 r1 => by
    obtain ⟨g, q3, op⟩ := ho a s1 _ q1
    exact op aS F1 H1 v f1.fh r1 Q fun u F3 H3 f3 r3 => q3 u F3 H3 (f1.trans f3.fr) (hs1.stepP f3) r3)
theorem dam_nil : DAM c ρ [] (fun _ : Unit => []) (pure ()) := ⟨_, fun X I => pa_nil, fun aS B s F H σ R Q q => q [] F H (Fr.refl R.ex) R.src .nil⟩
theorem dam_cons {eA : β → List D} {mr : M β} (h : DN c e ρ enc m) (hr : DAM c ρ es eA mr) (hs : NoStar e := by intro _ _; rfl) :
    DAM c ρ (e :: es) (fun p : α × β => enc p.1 :: eA p.2) (m >>= fun a => mr >>= fun b => pure (a, b)) := by
  obtain ⟨t, h1, h2⟩ := h
  obtain ⟨u, h3, h4⟩ := hr
  refine ⟨_, fun X I => pa_cons (h1 X I) (h3 X I) (hs _ _), fun aS B s F H σ R Q q => h2 aS B s F H σ R _ (q.bind.imp fun a s1 q1 v F1 H1 f1 hs1 r1 => h4 aS B s1 F1 H1 σ (R.step f1 hs1) _ (q1.bind.imp fun b s2 q2 vs F2 H2 f2 hs2 r2 => q2 _ F2 H2 (f1.trans f2) hs2 (.cons (r1.step f2) r2)))⟩
theorem DA.toM {x : α} {eA : α → List D} (h : DA c ρ es (eA x)) : DAM c ρ es eA (pure x) := by
  obtain ⟨t, h1, h2⟩ := h
  exact ⟨t, h1, fun aS B s F H σ R Q q => h2 aS B s F H σ R _ fun vs F' H' f r => q vs F' H' f.fr (R.src.stepP f) r⟩

/-! ### operators on ints -/
theorem rep_int {i : Int} {Q : VK} (e : Ex F H) (q : ∀ u F' H', Fp F H F' H' → Rep K F' u (.int i) → Q u H') : Q (.int i) H := q _ F H (Fp.refl e) (.int i)
theorem rep_bl {i : Bool} {Q : VK} (e : Ex F H) (q : ∀ u F' H', Fp F H F' H' → Rep K F' u (.bl i) → Q u H') : Q (.bl i) H := q _ F H (Fp.refl e) (.bl i)
theorem o2_int0 {g : Int → Int → Int} {i j : Int} : Op2 K (rI0 fun i j => .int (g i j)) (.int i) (.int j) (.int (g i j)) := fun aS F H v w e r1 r2 Q q => by
  rw [r1.int_inv, r2.int_inv]
  exact ⟨i, j, rfl, rfl, rep_int e q⟩
theorem o2_bl0 {g : Int → Int → Bool} {i j : Int} : Op2 K (rI0 fun i j => .bl (g i j)) (.int i) (.int j) (.bl (g i j)) := fun aS F H v w e r1 r2 Q q => by
  rw [r1.int_inv, r2.int_inv]
  exact ⟨i, j, rfl, rfl, rep_bl e q⟩
theorem o2_int {C : Int → Int → Prop} {g : Int → Int → Int} {i j : Int} (h : C i j) : Op2 K (rI C fun i j => .int (g i j)) (.int i) (.int j) (.int (g i j)) := fun aS F H v w e r1 r2 Q q => by
  rw [r1.int_inv, r2.int_inv]
  exact ⟨i, j, rfl, rfl, h, rep_int e q⟩
theorem dm_op {op : Operator} {r : R2} {e1 : α → D} {e2 : β → D} {e3 : γ → D} {ma : M α} {mb : M β} {f : α → β → M γ} (ho : ∀ X, c.Is X → OpR X (binaryOp op) r)
    (h : ∀ (a : α) (b : β) (s : List D) (P : γ → List D → Prop), Okk (f a b s) P → ∃ g, P g s ∧ Op2 c.K r (e1 a) (e2 b) (e3 g)) (ha : DN c a ρ e1 ma) (hb : DN c b ρ e2 mb) : DM c (.BinOp a op b pos) ρ e3 (ma >>= fun a => mb >>= fun b => f a b) := by
  obtain ⟨t, h1, h2⟩ := ha
  obtain ⟨u, h3, h4⟩ := hb
  exact ⟨_, fun X I => pe_op (ho X I) (h1 X I) (h3 X I), evm_op h2 h4 h⟩
theorem dm_cmp {op : CmpOp} {r : R2} {e1 : α → D} {e2 : β → D} {e3 : γ → D} {ma : M α} {mb : M β} {f : α → β → M γ} (ho : ∀ X, c.Is X → OpR X (compareOp op) r)
    (h : ∀ (a : α) (b : β) (s : List D) (P : γ → List D → Prop), Okk (f a b s) P → ∃ g, P g s ∧ Op2 c.K r (e1 a) (e2 b) (e3 g)) (ha : DN c a ρ e1 ma) (hb : DN c b ρ e2 mb) (hm : behindInMarks op b = false) : DM c (.Compare a [op] [b] pos) ρ e3 (ma >>= fun a => mb >>= fun b => f a b) := by
  obtain ⟨t, h1, h2⟩ := ha
  obtain ⟨u, h3, h4⟩ := hb
  exact ⟨_, fun X I => pe_cmpR (ho X I) (h1 X I) (h3 X I) hm, evm_op h2 h4 h⟩
theorem dtm_cmp {op : CmpOp} {r : R2} {e1 : α → D} {e2 : β → D} {ma : M α} {mb : M β} {f : α → β → M Bool} (ho : ∀ X, c.Is X → OpR X (compareOp op) r)
    (h : ∀ (a : α) (b : β) (s : List D) (P : Bool → List D → Prop), Okk (f a b s) P → ∃ g, P g s ∧ Op2 c.K r (e1 a) (e2 b) (.bl g)) (ha : DN c a ρ e1 ma) (hb : DN c b ρ e2 mb) (hm : behindInMarks op b = false) : DTM c (.Compare a [op] [b] pos) ρ (ma >>= fun a => mb >>= fun b => f a b) := by
  obtain ⟨t, h1, h2⟩ := ha
  obtain ⟨u, h3, h4⟩ := hb
  exact ⟨_, fun X I => pt_cmpR (ho X I) (h1 X I) (h3 X I) hm, fun aS B s F H σ R Q q => evm_op (e3 := D.bl) h2 h4 h aS B s F H σ R _ (q.imp fun k s' q v F' H' f hs r => ⟨k, r.bl_inv, q F' H' f hs⟩)⟩
end
end Dl

/-! Dl, part C: tests, comparisons of data, built-ins, displays. -/
namespace Dl
open PySem PySem.Spec PyProof.Rows L2
open Evl (Ex)

/-! ### data as the library's plain data -/
mutual
def py : D → PyData
  | .non => .none
  | .bl b => .bool b
  | .int i => .int i
  | .str x => .str x
  | .lst l => .list (pys l)
  | .tup l => .tuple (pys l)
  | .tpd l => .tuple (pys l)
  | .scr l => .list (pys l)
  | .dct _ => .dict []
  | .dtt _ => .dict []
  | .obj _ _ => .dict []
def pys : List D → List PyData
  | [] => []
  | d :: l => py d :: pys l
end
section
variable {K : Kx} {F H : Hp} {v : V} {d : D} {aS : Option Addr}
theorem dpAll_of : ∀ {vs : List V} {l : List D}, vs.length = l.length → (∀ (i : Nat) (v : V) (d : D), vs[i]? = some v → l[i]? = some d → Dp K.K H v (py d)) → DpAll K.K H vs (pys l)
  | [], [], _, _ => by rw [pys]; exact .nil
  | [], _ :: _, h, _ => by cases h
  | _ :: _, [], h, _ => by cases h
  | v :: vs, d :: l, h, hi => by
    rw [pys]
    exact .cons (hi 0 v d rfl rfl) (dpAll_of (Nat.succ.inj h) fun i w e h1 h2 => hi (i + 1) w e h1 h2)
theorem lay_at : ∀ {l : List D} {i : Nat} {d : D}, l[i]? = some d → PyData.canLayAll0 (pys l) = true → (py d).canLay0 = true
  | [], i, d, h, _ => by simp at h
  | a :: l, 0, d, h, q => by
    rw [pys, PyData.canLayAll0, Bool.and_eq_true] at q
    have e := Option.some.inj h
    rw [← e]
    exact q.1
  | a :: l, i + 1, d, h, q => by
    rw [pys, PyData.canLayAll0, Bool.and_eq_true] at q
    exact lay_at (l := l) (i := i) (by simpa using h) q.2
theorem Rep.dp (e : Ex F H) (r : Rep K F v d) : (py d).canLay0 = true → Dp K.K H v (py d) := by
  induction r with
  | non => intro _; rw [py]; exact .non
  | bl b => intro _; rw [py]; exact .bl b
  | int i => intro _; rw [py]; exact .int i
  | str x => intro _; rw [py]; exact .str x
  | lst h hz hl _ ih =>
    intro q
    rw [py] at q ⊢
    rw [PyData.canLay0] at q
    exact .lst (SqL.of (e _ _ h)) (dpAll_of hl fun i v d h1 h2 => ih i v d h1 h2 (lay_at h2 q))
  | tpd h hd hz hl _ ih =>
    intro q
    rw [py] at q ⊢
    rw [PyData.canLay0] at q
    exact .tup (.inl (.inr ⟨_, e _ _ h⟩)) (dpAll_of hl fun i v d h1 h2 => ih i v d h1 h2 (lay_at h2 q))
  | tup h hz hl _ ih =>
    intro q
    rw [py] at q ⊢
    rw [PyData.canLay0] at q
    exact .tup (SqT.of (e _ _ h)) (dpAll_of hl fun i v d h1 h2 => ih i v d h1 h2 (lay_at h2 q))
  | scr h hz hl _ ih =>
    intro q
    rw [py] at q ⊢
    rw [PyData.canLay0] at q
    exact .lst (Evl.ex_l e h) (dpAll_of hl fun i v d h1 h2 => ih i v d h1 h2 (lay_at h2 q))
  | dk => intro q; rw [py, PyData.canLay0] at q; cases q
  | dt => intro q; rw [py, PyData.canLay0] at q; cases q
  | obj => intro q; rw [py, PyData.canLay0] at q; cases q
theorem BRep.dp (e : Ex F H) (r : BRep aS K F H v d) (q : (py d).canLay0 = true) : Dp K.K H v (py d) := by
  cases r with
  | of r => exact r.dp e q
  | ow ns hF hH hz r =>
    rw [py] at q ⊢
    rw [PyData.canLay0] at q
    exact .lst (SqL.of hH) (dpAll_of r.length fun i v d h1 h2 => (r.at i v d h1 h2).dp e (lay_at h2 q))
  | ok => rw [py, PyData.canLay0] at q; cases q
  | ot => rw [py, PyData.canLay0] at q; cases q
end

/-- an encoding of a type as data that can be compared: of depth k at most -/
structure Eqs {α : Type} [DecidableEq α] (enc : α → D) (k : Nat) : Prop where
  eq : ∀ x y, PyData.eqv (py (enc x)) (py (enc y)) = decide (x = y)
  lay : ∀ x, (py (enc x)).canLay0 = true
  dep : ∀ x, (py (enc x)).depth ≤ k
  few : k ≤ 60
theorem Eqs.sh {α : Type} [DecidableEq α] {enc : α → D} {k : Nat} (E : Eqs enc k) (x : α) : SeqAt.shaped (py (enc x)) = true := by
  unfold SeqAt.shaped
  rw [E.lay x, Bool.true_and]
  exact decide_eq_true (Nat.le_trans (E.dep x) (Nat.le_trans E.few (by decide)))
theorem Eqs.int : Eqs D.int 0 := ⟨fun x y => by
  rw [py, py, PyData.eqv]
  by_cases h : x = y
  · rw [h, decide_eq_true rfl]; exact beq_self_eq_true _
  · rw [decide_eq_false h]; exact beq_eq_false_iff_ne.mpr h, fun x => by rw [py, PyData.canLay0], fun x => by rw [py, PyData.depth] <;> decide, by decide⟩
theorem Eqs.bl : Eqs D.bl 0 := ⟨fun x y => by
  rw [py, py, PyData.eqv]
  cases x <;> cases y <;> rfl, fun x => by rw [py, PyData.canLay0], fun x => by rw [py, PyData.depth] <;> decide, by decide⟩
/-- a list, a tuple of any length, of data of one encoding -/
abbrev eL {α : Type} (e : α → D) (l : List α) : D := .lst (l.map e)
abbrev eT {α : Type} (e : α → D) (l : List α) : D := .tup (l.map e)
abbrev eP {α β : Type} (e : α → D) (f : β → D) (p : α × β) : D := .tup [e p.1, f p.2]
abbrev eO {α : Type} (e : α → D) : Option α → D
  | some x => e x
  | none => .non
abbrev eU (_ : Unit) : D := .non
abbrev eId (d : D) : D := d
section
variable {α β : Type} [DecidableEq α] [DecidableEq β] {e : α → D} {f : β → D} {k m : Nat}
theorem Eqs.all (E : Eqs e k) : ∀ l : List α, PyData.canLayAll0 (pys (l.map e)) = true ∧ PyData.depthAll (pys (l.map e)) ≤ k
  | [] => by rw [List.map_nil, pys, PyData.canLayAll0, PyData.depthAll]; exact ⟨rfl, Nat.zero_le _⟩
  | x :: l => by
    obtain ⟨h1, h2⟩ := Eqs.all E l
    rw [List.map_cons, pys, PyData.canLayAll0, PyData.depthAll, E.lay x, h1]
    exact ⟨rfl, Nat.max_le.mpr ⟨E.dep x, h2⟩⟩
theorem Eqs.eqAll (E : Eqs e k) : ∀ l l' : List α, PyData.eqvAll (pys (l.map e)) (pys (l'.map e)) = decide (l = l')
  | [], [] => by rw [List.map_nil, pys, PyData.eqvAll] <;> rfl
  | [], y :: l' => by rw [List.map_nil, List.map_cons, pys, pys, PyData.eqvAll] <;> rfl
  | x :: l, [] => by rw [List.map_nil, List.map_cons, pys, pys, PyData.eqvAll] <;> rfl
  | x :: l, y :: l' => by
    rw [List.map_cons, List.map_cons, pys, pys, PyData.eqvAll, E.eq, Eqs.eqAll E l l']
    by_cases h : x = y
    · by_cases q : l = l'
      · rw [h, q, decide_eq_true rfl, decide_eq_true rfl, decide_eq_true rfl]; rfl
      · rw [decide_eq_false q, decide_eq_false (fun z => q (List.cons.inj z).2), Bool.and_false]
    · rw [decide_eq_false h, decide_eq_false (fun z => h (List.cons.inj z).1), Bool.false_and]
theorem Eqs.lst (E : Eqs e k) (hk : k < 60) : Eqs (eL e) (k + 1) := ⟨fun x y => by
  show PyData.eqv (py (.lst (x.map e))) (py (.lst (y.map e))) = _
  rw [py, py, PyData.eqv]; exact E.eqAll x y, fun x => by
  show (py (.lst (x.map e))).canLay0 = true
  rw [py, PyData.canLay0]; exact (E.all x).1, fun x => by
  show (py (.lst (x.map e))).depth ≤ _
  rw [py, PyData.depth]; have := (E.all x).2; omega, hk⟩
theorem Eqs.tup (E : Eqs e k) (hk : k < 60) : Eqs (eT e) (k + 1) := ⟨fun x y => by
  show PyData.eqv (py (.tup (x.map e))) (py (.tup (y.map e))) = _
  rw [py, py, PyData.eqv]; exact E.eqAll x y, fun x => by
  show (py (.tup (x.map e))).canLay0 = true
  rw [py, PyData.canLay0]; exact (E.all x).1, fun x => by
  show (py (.tup (x.map e))).depth ≤ _
  rw [py, PyData.depth]; have := (E.all x).2; omega, hk⟩
theorem Eqs.pair (E : Eqs e k) (G : Eqs f m) (hk : max k m < 60) : Eqs (eP e f) (max k m + 1) := ⟨fun x y => by
  show PyData.eqv (py (.tup [e x.1, f x.2])) (py (.tup [e y.1, f y.2])) = _
  rw [py, py, PyData.eqv]
  simp only [pys, PyData.eqvAll, E.eq, G.eq, Bool.and_true]
  obtain ⟨a, b⟩ := x
  obtain ⟨a', b'⟩ := y
  by_cases h : a = a'
  · by_cases q : b = b'
    · subst h; subst q; simp
    · rw [decide_eq_false q, decide_eq_false (fun z => q (Prod.mk.inj z).2), Bool.and_false]
  · rw [decide_eq_false h, decide_eq_false (fun z => h (Prod.mk.inj z).1), Bool.false_and], fun x => by
  show (py (.tup [e x.1, f x.2])).canLay0 = true
  rw [py, PyData.canLay0, pys, pys, pys, PyData.canLayAll0, PyData.canLayAll0, PyData.canLayAll0, E.lay, G.lay] <;> rfl, fun x => by
  show (py (.tup [e x.1, f x.2])).depth ≤ _
  rw [py, PyData.depth, pys, pys, pys, PyData.depthAll, PyData.depthAll, PyData.depthAll]
  have h1 := E.dep x.1
  have h2 := G.dep x.2
  omega, hk⟩
end

section
variable {c : Ct} {e a b : Expr} {es rest : List Expr} {ρ : List Sl} {d d1 d2 : D} {ds l : List D} {α β γ : Type} {enc : α → D} {m : M α} {pos p2 p3 : Pos} {x : Str} {aS : Option Addr} {K : Kx} {F H : Hp} {s : List D} {σ : L2.St} {B : Bs} {p q : Bool}

/-! ### and, or, not, if-else: as values -/
theorem dm_one {op : BoolOp} (h : DM c e ρ enc m) : DM c (.BoolOp op [e] pos) ρ enc m := by
  obtain ⟨t, h1, h2⟩ := h
  exact ⟨t, fun X I => pe_one (h1 X I), h2⟩
def mAnd (a b : M Bool) : M Bool := a >>= fun p => if p then b else pure false
def mOr (a b : M Bool) : M Bool := a >>= fun p => if p then pure true else b
def mIf {α : Type} (t : M Bool) (a b : M α) : M α := t >>= fun p => if p then a else b
theorem dm_and {ma mb : M Bool} (ha : DM c a ρ D.bl ma) (hb : DM c (.BoolOp .And (b :: rest) pos) ρ D.bl mb) : DM c (.BoolOp .And (a :: b :: rest) pos) ρ D.bl (mAnd ma mb) := by
  obtain ⟨t, h1, h2⟩ := ha
  obtain ⟨u, h3, h4⟩ := hb
  refine ⟨_, fun X I => pe_and (h1 X I) (h3 X I), fun aS B s F H σ R Q k => h2 aS B s F H σ R _ (k.bind.imp fun p s1 k1 v F1 H1 f1 hs r1 => ⟨p, r1.bl_inv, ?_⟩)⟩
  cases p with
  | true => exact h4 aS B s1 F1 H1 σ (R.step f1 hs) Q (Okk.imp k1 fun x s2 k2 w F2 H2 f2 hs2 r2 => k2 w F2 H2 (f1.trans f2) hs2 r2)
  | false => exact k1 _ F1 H1 f1 hs (.bl false)
theorem dm_or {ma mb : M Bool} (ha : DM c a ρ D.bl ma) (hb : DM c (.BoolOp .Or (b :: rest) pos) ρ D.bl mb) : DM c (.BoolOp .Or (a :: b :: rest) pos) ρ D.bl (mOr ma mb) := by
  obtain ⟨t, h1, h2⟩ := ha
  obtain ⟨u, h3, h4⟩ := hb
  refine ⟨_, fun X I => pe_or (h1 X I) (h3 X I), fun aS B s F H σ R Q k => h2 aS B s F H σ R _ (k.bind.imp fun p s1 k1 v F1 H1 f1 hs r1 => ⟨p, r1.bl_inv, ?_⟩)⟩
  cases p with
  | true => exact k1 _ F1 H1 f1 hs (.bl true)
  | false => exact h4 aS B s1 F1 H1 σ (R.step f1 hs) Q (Okk.imp k1 fun x s2 k2 w F2 H2 f2 hs2 r2 => k2 w F2 H2 (f1.trans f2) hs2 r2)
theorem dm_not {ma : M Bool} (ha : DM c a ρ D.bl ma) : DM c (.UnaryOp .Not a pos) ρ D.bl (ma >>= fun p => pure !p) := by
  obtain ⟨t, h1, h2⟩ := ha
  exact ⟨_, fun X I => pe_not (h1 X I), fun aS B s F H σ R Q k => h2 aS B s F H σ R _ (k.bind.imp fun p s1 k1 v F1 H1 f1 hs r1 => ⟨p, r1.bl_inv, k1 _ F1 H1 f1 hs (.bl _)⟩)⟩
/-! ### tests -/
theorem DT.toM (h : DT c e ρ p) : DTM c e ρ (pure p) := by
  obtain ⟨t, h1, h2⟩ := h
  exact ⟨t, h1, fun aS B s F H σ R Q k => h2 aS B s F H σ R _ fun F' H' f => k F' H' f.fr (R.src.stepP f)⟩
theorem dtm_val {mb : M Bool} (h : DM c e ρ D.bl mb) (he : ∀ env whole, isTrue e env whole = (do let v ← whole; standAt e.pos; holding [v] (truthy v)) := by intro _ _; rfl) : DTM c e ρ mb := by
  obtain ⟨t, h1, h2⟩ := h
  exact ⟨_, fun X I => pt_val (h1 X I) (he _), fun aS B s F H σ R Q k => h2 aS B s F H σ R _ (k.imp fun p s' k v F' H' f hs r => ⟨p, r.bl_inv, k F' H' f hs⟩)⟩
theorem dtm_not {mb : M Bool} (h : DTM c e ρ mb) : DTM c (.UnaryOp .Not e pos) ρ (mb >>= fun p => pure !p) := by
  obtain ⟨t, h1, h2⟩ := h
  exact ⟨_, fun X I => pt_not (h1 X I), fun aS B s F H σ R Q k => h2 aS B s F H σ R _ (k.bind.imp fun p s1 k1 F' H' f hs => k1 F' H' f hs)⟩
theorem dtm_w {mb : M Bool} (h : DWM c e ρ mb) : DTM c e ρ mb := by
  obtain ⟨t, h1, h2⟩ := h
  exact ⟨_, fun X I => (h1 X I).pt, h2⟩
theorem dwm_and1 {mb : M Bool} (h : DTM c e ρ mb) : DWM c (.BoolOp .And [e] pos) ρ mb := by
  obtain ⟨t, h1, h2⟩ := h
  exact ⟨_, fun X I => pw_and1 (h1 X I), h2⟩
theorem dwm_or1 {mb : M Bool} (h : DTM c e ρ mb) : DWM c (.BoolOp .Or [e] pos) ρ mb := by
  obtain ⟨t, h1, h2⟩ := h
  exact ⟨_, fun X I => pw_or1 (h1 X I), h2⟩
theorem dwm_and {ma mb : M Bool} (ha : DTM c a ρ ma) (hb : DWM c (.BoolOp .And (b :: rest) pos) ρ mb) : DWM c (.BoolOp .And (a :: b :: rest) pos) ρ (mAnd ma mb) := by
  obtain ⟨t, h1, h2⟩ := ha
  obtain ⟨u, h3, h4⟩ := hb
  refine ⟨_, fun X I => pw_and (h1 X I) (h3 X I), fun aS B s F H σ R Q k => h2 aS B s F H σ R _ (k.bind.imp fun p s1 k1 F1 H1 f1 hs => ?_)⟩
  cases p with
  | true => exact h4 aS B s1 F1 H1 σ (R.step f1 hs) Q (Okk.imp k1 fun x s2 k2 F2 H2 f2 hs2 => k2 F2 H2 (f1.trans f2) hs2)
  | false => exact k1 F1 H1 f1 hs
theorem dwm_or {ma mb : M Bool} (ha : DTM c a ρ ma) (hb : DWM c (.BoolOp .Or (b :: rest) pos) ρ mb) : DWM c (.BoolOp .Or (a :: b :: rest) pos) ρ (mOr ma mb) := by
  obtain ⟨t, h1, h2⟩ := ha
  obtain ⟨u, h3, h4⟩ := hb
  refine ⟨_, fun X I => pw_or (h1 X I) (h3 X I), fun aS B s F H σ R Q k => h2 aS B s F H σ R _ (k.bind.imp fun p s1 k1 F1 H1 f1 hs => ?_)⟩
  cases p with
  | true => exact k1 F1 H1 f1 hs
  | false => exact h4 aS B s1 F1 H1 σ (R.step f1 hs) Q (Okk.imp k1 fun x s2 k2 F2 H2 f2 hs2 => k2 F2 H2 (f1.trans f2) hs2)

/-! ### comparisons -/
theorem o2_eqD (h1 : SeqAt.shaped (py d1) = true) (h2 : SeqAt.shaped (py d2) = true) : Op2 K (rEqD K.K) d1 d2 (.bl (PyData.eqv (py d1) (py d2))) := fun aS F H v w e r1 r2 Q k =>
  ⟨_, _, r1.dp e (SeqAt.canLay_of_shaped h1), r2.dp e (SeqAt.canLay_of_shaped h2), h1, h2, rep_bl e k⟩
theorem o2_neD (h1 : SeqAt.shaped (py d1) = true) (h2 : SeqAt.shaped (py d2) = true) : Op2 K (rNeD K.K) d1 d2 (.bl (!PyData.eqv (py d1) (py d2))) := fun aS F H v w e r1 r2 Q k =>
  ⟨_, _, r1.dp e (SeqAt.canLay_of_shaped h1), r2.dp e (SeqAt.canLay_of_shaped h2), h1, h2, rep_bl e k⟩
theorem op_eqI {X : Cx} (I : c.Is X) : OpR X (compareOp .Eq) (rEqD c.K.K) := by
  rw [← I.K]
  exact op_eqD I.room.units
theorem op_neI {X : Cx} (I : c.Is X) : OpR X (compareOp .NotEq) (rNeD c.K.K) := by
  rw [← I.K]
  exact op_neD I.room.units
theorem o2_eq [DecidableEq α] {k : Nat} (E : Eqs enc k) (x y : α) : Op2 K (rEqD K.K) (enc x) (enc y) (.bl (decide (x = y))) := by
  rw [← E.eq x y]
  exact o2_eqD (E.sh x) (E.sh y)
theorem o2_ne [DecidableEq α] {k : Nat} (E : Eqs enc k) (x y : α) : Op2 K (rNeD K.K) (enc x) (enc y) (.bl (!decide (x = y))) := by
  rw [← E.eq x y]
  exact o2_neD (E.sh x) (E.sh y)
/-- x < y and its like, on ints, by the operator's rule -/
def isN : D → Bool
  | .non => true
  | _ => false
end
end Dl

/-! Dl, part D: built-ins, displays, subscripts, slices, isinstance. -/
namespace Dl
open PySem PySem.Spec PyProof.Rows L2
open Evl (Ex)

/-! ### known arguments -/
section
variable (K : Kx)
def EvK (ta : TA) (ρ : List Sl) (ds : List D) : Prop := ∀ (aS : Option Addr) (B : Bs) (s : List D) (F H : Hp) (σ : L2.St), REnv aS K B s F H σ ρ → ∀ Q : List V → Hp → Prop, (∀ vs F' H', Fp F H F' H' → Reps K F' vs ds → Q vs H') → ta σ H Q
def EvKM {α : Type} (ta : TA) (ρ : List Sl) (enc : α → List D) (m : M α) : Prop := ∀ (aS : Option Addr) (B : Bs) (s : List D) (F H : Hp) (σ : L2.St), REnv aS K B s F H σ ρ → ∀ Q : List V → Hp → Prop,
  Okk (m s) (fun a s' => ∀ vs F' H', Fr aS F H F' H' → SrcAt aS K s' F' H' → Reps K F' vs (enc a) → Q vs H') → ta σ H Q
end
def DK (c : Ct) (ρ : List Sl) (es : List Expr) (ds : List D) : Prop := ∃ t, (∀ X, c.Is X → PA X es t) ∧ EvK c.K t ρ ds
def DKM {α : Type} (c : Ct) (ρ : List Sl) (es : List Expr) (enc : α → List D) (m : M α) : Prop := ∃ t, (∀ X, c.Is X → PA X es t) ∧ EvKM c.K t ρ enc m

/-- the items of a list, a tuple -/
def seqD : D → Option (List D)
  | .lst l => some l
  | .tup l => some l
  | .tpd l => some l
  | .scr l => some l
  | _ => none
/-- how a slice's ends lie -/
def cutL {α : Type} (xs : List α) (lo hi : Option Int) : List α := (xs.drop (HT.sIx xs.length 0 lo)).take (HT.sIx xs.length xs.length hi - HT.sIx xs.length 0 lo)
theorem cutL_length {α : Type} (xs : List α) (lo hi : Option Int) : (cutL xs lo hi).length ≤ xs.length := by
  unfold cutL
  rw [List.length_take, List.length_drop]
  omega
theorem cutL_map {α β : Type} (f : α → β) (xs : List α) (lo hi : Option Int) : cutL (xs.map f) lo hi = (cutL xs lo hi).map f := by
  unfold cutL
  rw [List.length_map, List.map_take, List.map_drop]

section
variable {c : Ct} {e a b : Expr} {es rest : List Expr} {ρ : List Sl} {d d1 d2 : D} {ds l l2 : List D} {α β γ : Type} {enc : α → D} {m : M α} {pos p2 p3 p4 : Pos} {x : Str} {aS : Option Addr} {K : Kx} {F H : Hp} {s : List D} {σ : L2.St} {B : Bs} {p q : Bool}

theorem DK.toM {y : α} {eA : α → List D} (h : DK c ρ es (eA y)) : DKM c ρ es eA (pure y) := by
  obtain ⟨t, h1, h2⟩ := h
  exact ⟨t, h1, fun aS B s F H σ R Q k => h2 aS B s F H σ R _ fun vs F' H' f r => k vs F' H' f.fr (R.src.stepP f) r⟩
/-! ### displays -/
/-! ### calls of built-ins by their name -/
theorem dm_callB {id : String} {r : List V → Hp → VK → Prop} {eA : α → List D} {eR : γ → D} {f : α → M γ} (hc : ∀ X, c.Is X → CallR X (.builtin id) r) (ho : ∀ (a : α) (s : List D) (P : γ → List D → Prop), Okk (f a s) P → ∃ g, P g s ∧ OpC c.K r (eA a) (eR g))
    (hg : c.sc.names.lookup x = some .globalImplicit) (hm : c.mg x = none) (hv : bootBuiltins x = some (.builtin id)) (ha : DAM c ρ (e :: es) eA m)
    (hn : x ≠ "__name__" := by decide) (hdb : (x == ("__debug__" : Str)) = false := by decide) (hs : NoStar e := by intro _ _; rfl) (hpl : ∀ env, (backTo pos (starEach es env)).any (·.1) = false := by intro _; rfl) :
    DM c (.Call (.Name x p2) (e :: es) [] pos) ρ eR (m >>= f) := by
  obtain ⟨t, h1, h2⟩ := ha
  exact ⟨_, fun X I => pe_callB (hc X I) (gl_of I hg) (by rw [I.mg]; exact hm) hv (h1 X I) hn hdb (hs _ _) (hpl _), evm_call h2 ho⟩
theorem dm_callTy {T : String} {r : List V → Hp → VK → Prop} {eA : α → List D} {eR : γ → D} {f : α → M γ} (hc : ∀ X, c.Is X → CallR X (.type T) r) (ho : ∀ (a : α) (s : List D) (P : γ → List D → Prop), Okk (f a s) P → ∃ g, P g s ∧ OpC c.K r (eA a) (eR g))
    (hg : c.sc.names.lookup x = some .globalImplicit) (hm : c.mg x = none) (hv : bootBuiltins x = some (.type T)) (ha : DAM c ρ (e :: es) eA m)
    (hn : x ≠ "__name__" := by decide) (hdb : (x == ("__debug__" : Str)) = false := by decide) (hs : NoStar e := by intro _ _; rfl) (hpl : ∀ env, (backTo pos (starEach es env)).any (·.1) = false := by intro _; rfl) :
    DM c (.Call (.Name x p2) (e :: es) [] pos) ρ eR (m >>= f) := by
  obtain ⟨t, h1, h2⟩ := ha
  exact ⟨_, fun X I => pe_callTy (hc X I) (gl_of I hg) (by rw [I.mg]; exact hm) hv (h1 X I) hn hdb (hs _ _) (hpl _), evm_call h2 ho⟩
theorem arg1 {vs : List V} (r : Paired (BRep aS K F H) vs [d]) : ∃ v, vs = [v] ∧ BRep aS K F H v d := by
  cases r with
  | cons r t =>
    cases t
    exact ⟨_, rfl, r⟩
theorem arg2 {vs : List V} (r : Paired (BRep aS K F H) vs [d1, d2]) : ∃ v w, vs = [v, w] ∧ BRep aS K F H v d1 ∧ BRep aS K F H w d2 := by
  cases r with
  | cons r t =>
    cases t with
    | cons r2 t =>
      cases t
      exact ⟨_, _, rfl, r, r2⟩
/-- a sequence, read where it stands -/
theorem BRep.seq (e : Ex F H) {v : V} (r : BRep aS K F H v d) (h : seqD d = some l) : ∃ a vs, v = .ref a ∧ (SqL K.K H a vs ∨ SqT K.K H a vs) ∧ l.length ≤ LIM ∧ Reps K F vs l := by
  cases r with
  | of r =>
    cases r with
    | lst h1 hz hl hi => cases h; exact ⟨_, _, rfl, .inl (SqL.of (e _ _ h1)), hz, Reps.of hl hi⟩
    | tup h1 hz hl hi => cases h; exact ⟨_, _, rfl, .inr (SqT.of (e _ _ h1)), hz, Reps.of hl hi⟩
    | tpd h1 _ hz hl hi => cases h; exact ⟨_, _, rfl, .inr (.inl (.inr ⟨_, e _ _ h1⟩)), hz, Reps.of hl hi⟩
    | scr h1 hz hl hi => cases h; exact ⟨_, _, rfl, .inl (Evl.ex_l e h1), hz, Reps.of hl hi⟩
    | _ => cases h
  | ow ns hF hH hz r => cases h; exact ⟨_, _, rfl, .inl (SqL.of hH), hz, r⟩
  | ok => cases h
  | ot => cases h
/-- .. that is a list -/
def lstD : D → Option (List D)
  | .lst l => some l
  | .scr l => some l
  | _ => none
theorem BRep.list (e : Ex F H) {v : V} (r : BRep aS K F H v d) (h : lstD d = some l) : ∃ a vs, v = .ref a ∧ SqL K.K H a vs ∧ l.length ≤ LIM ∧ Reps K F vs l := by
  cases r with
  | of r =>
    cases r with
    | lst h1 hz hl hi => cases h; exact ⟨_, _, rfl, SqL.of (e _ _ h1), hz, Reps.of hl hi⟩
    | scr h1 hz hl hi => cases h; exact ⟨_, _, rfl, Evl.ex_l e h1, hz, Reps.of hl hi⟩
    | _ => cases h
  | ow ns hF hH hz r => cases h; exact ⟨_, _, rfl, SqL.of hH, hz, r⟩
  | ok => cases h
  | ot => cases h
theorem BRep.tupl (e : Ex F H) {v : V} (r : BRep aS K F H v (.tup l)) : ∃ a vs, v = .ref a ∧ SqT K.K H a vs ∧ l.length ≤ LIM ∧ Reps K F vs l := by
  obtain ⟨a, vs, e1, h, hz, r⟩ := r.of_tup.of_tup
  exact ⟨a, vs, e1, SqT.of (e _ _ h), hz, r⟩
abbrev GI (c : Ct) (x : Str) : Prop := c.sc.names.lookup x = some .globalImplicit
def rLen (K : PySem.W.Frag) : List V → Hp → VK → Prop := fun xs H Q => ∃ p ys, xs = [.ref p] ∧ (SqL K H p ys ∨ SqT K H p ys) ∧ Q (.int ys.length) H
theorem cl_len (X : Cx) (I : c.Is X) : CallR X (.builtin "len") (rLen c.K.K) := by
  rw [← I.K]
  exact call_len_seq
theorem oc_len (h : seqD d = some l) : OpC K (rLen K.K) [d] (.int l.length) := fun aS F H vs e r Q q => by
  obtain ⟨v, rfl, r1⟩ := arg1 r
  obtain ⟨a, ws, rfl, h1, hz, r2⟩ := r1.seq e h
  refine ⟨a, ws, rfl, h1, ?_⟩
  rw [r2.length]
  exact rep_int e q
def lenD (d : D) : M Int := match seqD d with
  | some l => pure (l.length : Int)
  | none => stuck
theorem dm_len (hg : GI c "len") (hm : c.mg "len" = none) (ha : DN c a ρ enc m) (hs : NoStar a := by intro _ _; rfl) : DM c (.Call (.Name "len" p2) [a] [] pos) ρ D.int (m >>= fun x => lenD (enc x)) := by
  have h := dm_callB (c := c) (e := a) (es := []) (ρ := ρ) (x := "len") (p2 := p2) (pos := pos) (id := "len") (eA := fun p : α × Unit => enc p.1 :: []) (eR := D.int) (f := fun p => lenD (enc p.1)) cl_len (fun p s P h => by
    unfold lenD at h
    cases q : seqD (enc p.1) with
    | none => rw [q] at h; exact h.elim
    | some l =>
      rw [q] at h
      exact ⟨_, h, oc_len q⟩) hg hm PySem.boot_len (dam_cons ha dam_nil hs) (hs := hs)
  obtain ⟨t, h1, h2⟩ := h
  refine ⟨t, h1, fun aS B s F H σ R Q k => h2 aS B s F H σ R Q ?_⟩
  exact m_ext k (by simp)
theorem DM.eq {m' : M α} (h : DM c e ρ enc m) (q : m = m') : DM c e ρ enc m' := q ▸ h
theorem DO.eq {eA : α → List D} {m' : M α} (h : DO c e ρ eA m) (q : m = m') : DO c e ρ eA m' := q ▸ h
theorem DL.eq (h : DL c e ρ l) (q : l = l2) : DL c e ρ l2 := q ▸ h
theorem DTM.eq {m m' : M Bool} (h : DTM c e ρ m) (q : m = m') : DTM c e ρ m' := q ▸ h
/-- tuple(list), tuple(tuple), list(sequence) -/
def rTupOf (K : PySem.W.Frag) : List V → Hp → VK → Prop := fun xs H Q => ∃ p ys, xs = [.ref p] ∧ ((SqL K H p ys ∧ ∀ l, H l = none → Q (.ref l) (upd H l (.tup ys))) ∨ (SqT K H p ys ∧ Q (.ref p) H))
def rLstOf (K : PySem.W.Frag) : List V → Hp → VK → Prop := fun xs H Q => ∃ p ys, xs = [.ref p] ∧ (SqL K H p ys ∨ SqT K H p ys) ∧ ∀ l, H l = none → Q (.ref l) (upd H l (.lst ys))
theorem oc_tupL (h : lstD d = some l) : OpC K (rTupOf K.K) [d] (.tup l) := fun aS F H vs e r Q q => by
  obtain ⟨v, rfl, r1⟩ := arg1 r
  obtain ⟨a, ws, rfl, h1, hz, r2⟩ := r1.list e h
  exact ⟨a, ws, rfl, .inl ⟨h1, fun p hp => q _ (upd F p (.tup ws)) _ (Fp.new e hp) (Rep.mk_tup upd_same hz (r2.mono (Ex.new (Ex.none_of e hp))))⟩⟩
theorem oc_lst (h : seqD d = some l) : OpCL K (rLstOf K.K) [d] l := fun aS F H vs e r Q q => by
  obtain ⟨v, rfl, r1⟩ := arg1 r
  obtain ⟨a, ws, rfl, h1, hz, r2⟩ := r1.seq e h
  exact ⟨a, ws, rfl, h1, fun p hp => q p ws F _ (Fp.own e hp) hp (Ex.none_of e hp) upd_same hz r2⟩
theorem cl_tup (X : Cx) (I : c.Is X) : CallR X (.type "tuple") (rTupOf c.K.K) := by
  rw [← I.K]
  exact call_tuple_of
theorem cl_lst (X : Cx) (I : c.Is X) : CallR X (.type "list") (rLstOf c.K.K) := by
  rw [← I.K]
  exact call_list_of
/-- list(range(n)), list(range(a, b)) -/
def rg (a b : Int) : List Int := (List.range (b - a).toNat).map fun i => a + (i : Nat)
theorem rgV_rg (a b : Int) : rgV a b = (rg a b).map V.int := by
  unfold rgV rg
  rw [List.map_map]
  rfl
theorem rg_length (a b : Int) : (rg a b).length = (b - a).toNat := by
  unfold rg
  rw [List.length_map, List.length_range]
def rgOk (a b : Int) : Bool := decide (-(2 ^ 60) ≤ a) && decide (a < 2 ^ 60) && decide (-(2 ^ 60) ≤ b) && decide (b < 2 ^ 60) && decide ((b - a).toNat ≤ LIM)
/-- told by a choice, so that nothing looks into it -/
theorem mRg_ex : ∃ f : Int → Int → M (List Int), f = fun a b => if rgOk a b then pure (rg a b) else stuck := ⟨_, rfl⟩
noncomputable def mRg : Int → Int → M (List Int) := Classical.choose mRg_ex
theorem mRg_eq (a b : Int) : mRg a b = if rgOk a b then pure (rg a b) else stuck := congrFun (congrFun (Classical.choose_spec mRg_ex) a) b
theorem rgOk_of {a b : Int} (h : rgOk a b = true) : RgOk a b ∧ (b - a).toNat ≤ LIM := by
  unfold rgOk at h
  simp only [Bool.and_eq_true, decide_eq_true_eq] at h
  obtain ⟨⟨⟨⟨h1, h2⟩, h3⟩, h4⟩, h5⟩ := h
  refine ⟨⟨by omega, by omega, by omega, by omega, ?_⟩, h5⟩
  have : (LIM : Nat) ≤ 2 ^ 24 := by decide
  omega
theorem Okk.rg {a b : Int} {s : List D} {P : List Int → List D → Prop} (h : Okk (mRg a b s) P) : rgOk a b = true ∧ P (rg a b) s := by
  rw [mRg_eq] at h
  split at h
  · rename_i q
    exact ⟨q, h⟩
  · exact h.elim
theorem do_listRg1 [Cool c] {mi : M Int} (hg : GI c "list") (hm : c.mg "list" = none) (hg2 : GI c "range") (hm2 : c.mg "range" = none) (ha : DM c a ρ D.int mi) (hs : NoStar a := by intro _ _; rfl) : DO c (.Call (.Name "list" p2) [.Call (.Name "range" p3) [a] [] p4] [] pos) ρ (fun l => l.map D.int) (mi >>= fun i => mRg 0 i) := by
  obtain ⟨t, h1, h2⟩ := ha
  refine ⟨_, fun X I => pe_listRg (I.calm Cool.h) (gl_of I hg) (by rw [I.mg]; exact hm) (prg_1 (gl_of I hg2) (by rw [I.mg]; exact hm2) (h1 X I) (hs _ _)), fun aS B s F H σ R Q k => h2 aS B s F H σ R _ (k.bind.imp fun i s1 k1 v F1 H1 f1 hs1 r1 => ⟨i, r1.int_inv, ?_⟩)⟩
  obtain ⟨ok, k2⟩ := k1.rg
  obtain ⟨ok1, ok2⟩ := rgOk_of ok
  refine ⟨ok1, fun p hp => ?_⟩
  have R1 := R.step f1 hs1
  rw [rgV_rg]
  refine k2 p _ F1 _ (f1.trans (Fp.own f1.fh hp).fr) (hs1.stepP (Fp.own f1.fh hp)) ?_ (R1.notSrc hp) (Ex.none_of f1.fh hp) upd_same (by rw [List.length_map, rg_length]; exact ok2) (Reps.of_ints _)
  cases q0 : H p with
  | none => rfl
  | some o =>
    by_cases hF : F p = none
    · by_cases hn : aS = some p
      · exact absurd hn (R1.notSrc hp)
      · rw [f1.dm _ hp] at q0
        cases q0
    · obtain ⟨u, hu⟩ := Option.ne_none_iff_exists'.mp hF
      rw [f1.fh p u (f1.ff p u hu)] at hp
      cases hp

/-! ### subscripts -/
def rIxS (K : PySem.W.Frag) : R2 := fun x y H Q => rIxL K x y H Q ∨ rIxT K x y H Q
theorem ix_both {X : Cx} : IxR X (rIxS X.K) := ix_list.or ix_tup
theorem Reps.atI {vs : List V} {i : Int} (r : Reps K F vs l) (h : L2.atI l i = some d) : ∃ v, L2.atI vs i = some v ∧ Rep K F v d := by
  unfold L2.atI at h ⊢
  rw [r.length]
  cases q : ixN l.length i with
  | none => rw [q] at h; cases h
  | some j =>
    rw [q] at h
    obtain ⟨v, h1, h2⟩ := r.get (show l[j]? = some d from h)
    exact ⟨v, h1, h2⟩
theorem o2_ix {i : Int} (h : seqD d = some l) (ha : L2.atI l i = some d1) : Op2 K (rIxS K.K) d (.int i) d1 := fun aS F H v w e r1 r2 Q q => by
  obtain ⟨p, vs, rfl, h1, hz, r⟩ := r1.seq e h
  obtain ⟨u, h2, r3⟩ := r.atI ha
  rcases h1 with h1 | h1
  · exact .inl ⟨p, vs, i, u, rfl, r2.int_inv, h1, h2, q _ F H (Fp.refl e) r3⟩
  · exact .inr ⟨p, vs, i, u, rfl, r2.int_inv, h1, h2, q _ F H (Fp.refl e) r3⟩
theorem atI_map {f : α → D} {xs : List α} {i : Int} {y : α} (h : L2.atI xs i = some y) : L2.atI (xs.map f) i = some (f y) := by
  unfold L2.atI at h ⊢
  rw [List.length_map]
  cases q : ixN xs.length i with
  | none => rw [q] at h; cases h
  | some j =>
    rw [q] at h
    show (xs.map f)[j]? = _
    rw [List.getElem?_map, show xs[j]? = some y from h]
    rfl
/-- xs[i], xs of a type: stuck beyond the ends -/
theorem dm_ix {mi : M Int} {ms : M α} {eA : α → D} {g : α → List β} {eb : β → D} (hq : ∀ x, seqD (eA x) = some ((g x).map eb)) (ha : DN c a ρ eA ms) (hb : DN c b ρ D.int mi) (hs : PlainIx b := by intro _ _; rfl) : DM c (.Subscript a b pos) ρ eb (ms >>= fun xs => mi >>= fun i => ofO (L2.atI (g xs) i)) := by
  obtain ⟨t, h1, h2⟩ := ha
  obtain ⟨u, h3, h4⟩ := hb
  exact ⟨_, fun X I => pe_ix (r := rIxS c.K.K) (by rw [← I.K]; exact ix_both) (h1 X I) (h3 X I) hs, evm_op h2 h4 fun xs i s P h => by
    obtain ⟨y, e1, h⟩ := h.ofO
    exact ⟨y, h, o2_ix (hq xs) (atI_map e1)⟩⟩
/-- d[i], d any datum -/
def ixD (d : D) (i : Int) : M D := match seqD d with
  | some l => ofO (L2.atI l i)
  | none => stuck
theorem dm_ixD {mi : M Int} {md : M D} (ha : DN c a ρ eId md) (hb : DN c b ρ D.int mi) (hs : PlainIx b := by intro _ _; rfl) : DM c (.Subscript a b pos) ρ eId (md >>= fun x => mi >>= fun i => ixD x i) := by
  obtain ⟨t, h1, h2⟩ := ha
  obtain ⟨u, h3, h4⟩ := hb
  refine ⟨_, fun X I => pe_ix (r := rIxS c.K.K) (by rw [← I.K]; exact ix_both) (h1 X I) (h3 X I) hs, evm_op h2 h4 fun x i s P h => ?_⟩
  unfold ixD at h
  cases q : seqD x with
  | none => rw [q] at h; exact h.elim
  | some l =>
    rw [q] at h
    obtain ⟨y, e1, h⟩ := h.ofO
    exact ⟨y, h, o2_ix q e1⟩
end
end Dl

/-! Dl, part E: statements, loops, comprehensions, defs. -/
namespace Dl
open PySem PySem.Spec PyProof.Rows L2
open Evl (Ex)

/-! ### what a block comes to -/
inductive Oc where
  | nx (ρ : List Sl) | rt (d : D) | ro (l : List D) | bk (ρ : List Sl) | rw (o : Ow) | xr (W : WX) (A : Hp → Hp → Value → Option Addr → Prop) (ρ : List Sl)
def isRt : Oc → Bool
  | .nx _ => false
  | .bk _ => false
  | _ => true
def isNx : Oc → Bool
  | .nx _ => true
  | _ => false
def OcOk (aS : Option Addr) (K : Kx) (B : Bs) (s : List D) (E : Ends) : Oc → Prop
  | .nx ρ => ∀ σ F H, REnv aS K B s F H σ ρ → E.nx σ H
  | .rt d => ∀ v F H, Fr aS B.f B.h F H → SrcAt aS K s F H → Rep K F v d → E.rt v H
  | .bk ρ => ∀ σ F H, REnv aS K B s F H σ ρ → E.bk σ H
  | .rw o => ∀ p fp F H, Fr aS B.f B.h F H → SrcAt aS K s F H → (∀ q ∈ fp, B.h q = none ∧ F q = none ∧ ∃ u, H q = some u ∧ NT u) → OwAt K B F H fp p o → E.rt (.ref p) H
  | .xr W A ρ => ∀ cls d σ F H, REnv aS K B s F H σ ρ → A F H cls d → W cls d σ H
  | .ro l => ∀ p vs F H, Fr aS B.f B.h F H → SrcAt aS K s F H → B.h p = none → aS ≠ some p → F p = none → H p = some (.lst vs) → l.length ≤ LIM → Reps K F vs l → E.rt (.ref p) H
def StM {γ : Type} (K : Kx) (ts : TS) (ρ : List Sl) (out : γ → Oc) (m : M γ) : Prop := ∀ (aS : Option Addr) (B : Bs) (s : List D) (F H : Hp) (σ : L2.St), REnv aS K B s F H σ ρ → ∀ E : Ends, Okk (m s) (fun g s' => OcOk aS K B s' E (out g)) → ts E σ H
def DS {γ : Type} (c : Ct) (sts : List Stmt) (ρ : List Sl) (out : γ → Oc) (m : M γ) : Prop := ∃ t, (∀ X, c.Is X → PSs X sts t) ∧ StM c.K t ρ out m
/-- an expression that may change lists of one's own -/
def EvE {α : Type} (K : Kx) (te : TE) (ρ : List Sl) (enc : α → D) (m : M α) (ρ' : α → List Sl) : Prop := ∀ (aS : Option Addr) (B : Bs) (s : List D) (F H : Hp) (σ : L2.St), REnv aS K B s F H σ ρ → ∀ Q : VK,
  Okk (m s) (fun a s' => ∀ v F' H', REnv aS K B s' F' H' σ (ρ' a) → Rep K F' v (enc a) → Q v H') → te σ H Q
def DE {α : Type} (c : Ct) (e : Expr) (ρ : List Sl) (enc : α → D) (m : M α) (ρ' : α → List Sl) : Prop := ∃ t, (∀ X, c.Is X → PE X e t) ∧ EvE c.K t ρ enc m ρ'
/-- the slots of ρ', as far as they are told, are those of ρ -/
inductive Weak : List Sl → List Sl → Prop
  | z : Weak [] []
  | s {y : Sl} {ρ ρ' : List Sl} (h : Weak ρ ρ') : Weak (y :: ρ) (y :: ρ')
  | n {y : Sl} {ρ ρ' : List Sl} (h : Weak ρ ρ') : Weak (y :: ρ) (.no :: ρ')
theorem Weak.length {ρ ρ' : List Sl} (h : Weak ρ ρ') : ρ.length = ρ'.length := by
  induction h with
  | z => rfl
  | s _ ih => simp [ih]
  | n _ ih => simp [ih]
theorem Weak.at {ρ ρ' : List Sl} (h : Weak ρ ρ') : ∀ {i : Nat} {y : Sl}, ρ'[i]? = some y → y = .no ∨ ρ[i]? = some y := by
  induction h with
  | z => intro i y h; simp at h
  | s _ ih =>
    intro i y h
    cases i with
    | zero => exact .inr h
    | succ i => exact ih (i := i) (by simpa using h)
  | n _ ih =>
    intro i y h
    cases i with
    | zero => exact .inl (Option.some.inj (by simpa using h)).symm
    | succ i => exact ih (i := i) (by simpa using h)
section
variable {c : Ct} {e a b : Expr} {es : List Expr} {sts rest sts2 : List Stmt} {st : Stmt} {ρ ρ1 ρ2 : List Sl} {d d1 d2 : D} {ds l : List D} {α β γ μ δ : Type} {enc : α → D} {m : M α} {pos p2 p3 p4 : Pos} {x : Str} {aS : Option Addr} {K : Kx} {F F' H H' : Hp} {s : List D} {σ : L2.St} {B : Bs} {p q : Bool} {out : γ → Oc} {E : Ends}
theorem REnv.weak (R : REnv aS K B s F H σ ρ) (w : Weak ρ ρ1) : REnv aS K B s F H σ ρ1 := by
  obtain ⟨φ, k1, k2, k3⟩ := R.sl
  refine ⟨R.fr, R.kn, R.src, R.len.trans w.length, φ, k1, k2, fun i x y h1 h2 => ?_⟩
  rcases w.at h2 with e | e
  · subst e; trivial
  · exact k3 i x y h1 e
theorem DM.toE (h : DM c e ρ enc m) : DE c e ρ enc m (fun _ => ρ) := by
  obtain ⟨t, h1, h2⟩ := h
  exact ⟨t, h1, fun aS B s F H σ R Q k => h2 aS B s F H σ R Q (k.imp fun a s1 k1 v F1 H1 f hs r => k1 v F1 H1 (R.step f hs) r)⟩

/-! ### one reading for all -/
theorem DS.all {ι : Type} {f : ι → List Sl} {n : ι → M γ} (h : ∀ i, DS c sts (f i) out (n i)) : ∃ t, (∀ X, c.Is X → PSs X sts t) ∧ ∀ i, StM c.K t (f i) out (n i) :=
  ⟨fun E σ H => ∃ i, (h i).choose E σ H, fun X I => ⟨fun pins s σ H E J ⟨i, z⟩ => ((h i).choose_spec.1 X I).run pins s σ H E J z⟩, fun i aS B s F H σ R E k => ⟨i, (h i).choose_spec.2 aS B s F H σ R E k⟩⟩
theorem DM.all {ι : Type} {f : ι → List Sl} {n : ι → M α} (h : ∀ i, DM c e (f i) enc (n i)) : ∃ t, (∀ X, c.Is X → PE X e t) ∧ ∀ i, EvM c.K t (f i) enc (n i) :=
  ⟨fun σ H Q => ∃ i, (h i).choose σ H Q, fun X I => ⟨fun pins s σ H Q J ⟨i, z⟩ => ((h i).choose_spec.1 X I).run pins s σ H Q J z⟩, fun i aS B s F H σ R Q k => ⟨i, (h i).choose_spec.2 aS B s F H σ R Q k⟩⟩
theorem DP.all {ι : Type} {f : ι → List Sl} {n : ι → D} (h : ∀ i, DP c e (f i) (n i)) : ∃ t, (∀ X, c.Is X → PE X e t) ∧ ∀ i, EvP c.K t (f i) (n i) :=
  ⟨fun σ H Q => ∃ i, (h i).choose σ H Q, fun X I => ⟨fun pins s σ H Q J ⟨i, z⟩ => ((h i).choose_spec.1 X I).run pins s σ H Q J z⟩, fun i aS B s F H σ R Q k => ⟨i, (h i).choose_spec.2 aS B s F H σ R Q k⟩⟩

/-! ### statements -/
theorem ds_end {g : γ} (h : out g = .nx ρ1) (w : Weak ρ ρ1) : DS c [] ρ out (pure g) :=
  ⟨_, fun X I => pss_nil, fun aS B s F H σ R E k => by
    have k : OcOk aS c.K B s E (out g) := k
    rw [h] at k
    exact k σ F H (R.weak w)⟩
theorem ds_never : DS c sts ρ out stuck := ⟨_, fun X I => pss_never, fun aS B s F H σ R E k => k⟩
theorem ds_ret {inj : α → γ} (h : ∀ a, out (inj a) = .rt (enc a)) (he : DM c e ρ enc m) : DS c [.Return (some e) pos] ρ out (m >>= fun a => pure (inj a)) := by
  obtain ⟨t, h1, h2⟩ := he
  exact ⟨_, fun X I => pss_one (ps_ret (h1 X I)), fun aS B s F H σ R E k => h2 aS B s F H σ R _ (k.bind.imp fun a s1 k1 v F1 H1 f hs r => by
    have k1 : OcOk aS c.K B s1 E (out (inj a)) := k1
    rw [h] at k1
    exact k1 v F1 H1 (R.fr.trans f) hs r)⟩
/-- return e, at a def's end -/
theorem ds_retV {m : M γ} {enc : γ → D} (h : ∀ a, out a = .rt (enc a)) (he : DM c e ρ enc m) : DS c [.Return (some e) pos] ρ out m := by
  have h1 := ds_ret (c := c) (ρ := ρ) (pos := pos) (out := out) (inj := id) h he
  have e1 : (m >>= fun a => pure (id a)) = m := bind_pure m
  rw [e1] at h1
  exact h1
theorem ds_retO {eA : α → List D} {inj : α → γ} (h : ∀ a, out (inj a) = .ro (eA a)) (he : DO c e ρ eA m) : DS c [.Return (some e) pos] ρ out (m >>= fun a => pure (inj a)) := by
  obtain ⟨t, h1, h2⟩ := he
  exact ⟨_, fun X I => pss_one (ps_ret (h1 X I)), fun aS B s F H σ R E k => h2 aS B s F H σ R _ (k.bind.imp fun a s1 k1 p vs F1 H1 f hs hp ns hF hH hz r => by
    have k1 : OcOk aS c.K B s1 E (out (inj a)) := k1
    rw [h] at k1
    exact k1 p vs F1 H1 (R.fr.trans f) hs (R.stands hp) ns hF hH hz r)⟩
theorem loc_of {X : Cx} (I : c.Is X) (h : Loc c.sc x) : Loc X.env.scope x := by
  rw [I.sc]
  exact h
def FnL (c : Ct) (x : Str) : Prop := c.fn x = true ∨ c.sc.names.lookup x = some .local
theorem fnl_of {X : Cx} (I : c.Is X) (h : FnL c x) : X.fn x = true ∨ X.env.scope.names.lookup x = some .local := by
  rw [I.fn, I.sc]
  exact h
/-- x = e -/
theorem ds_set (i : Nat) {k : α → M γ} {ρ' : α → List Sl} (hN : c.N[i]? = some x) (hx : Loc c.sc x) (hf : FnL c x) (he : DE c e ρ enc m ρ') (hr : ∀ a, DS c rest ((ρ' a).set i (.im (enc a))) out (k a)) (hs : ∀ env, swapsWith e (some (.Name x p2)) pos.line env = pure false := by intro _; rfl) :
    DS c (.Assign [.Name x p2] e pos :: rest) ρ out (m >>= k) := by
  obtain ⟨t, h1, h2⟩ := he
  obtain ⟨u, h3, h4⟩ := DS.all hr
  exact ⟨_, fun X I => pss_cons (ps_set I.nd (by rw [I.N]; exact hN) (loc_of I hx) (h1 X I) (hs _) (fnl_of I hf)) (h3 X I), fun aS B s F H σ R E q => h2 aS B s F H σ R _ (q.bind.imp fun a s1 q1 v F1 H1 R1 r => h4 a aS B s1 F1 H1 _ (R1.setIm r) E q1)⟩
/-- x = a new list, one's own -/
theorem ds_setO (i : Nat) {eA : α → List D} {k : α → M γ} (hN : c.N[i]? = some x) (hx : Loc c.sc x) (hf : FnL c x) (he : DO c e ρ eA m) (hr : ∀ a, DS c rest (ρ.set i (.ow (eA a))) out (k a)) (hs : ∀ env, swapsWith e (some (.Name x p2)) pos.line env = pure false := by intro _; rfl) :
    DS c (.Assign [.Name x p2] e pos :: rest) ρ out (m >>= k) := by
  obtain ⟨t, h1, h2⟩ := he
  obtain ⟨u, h3, h4⟩ := DS.all hr
  exact ⟨_, fun X I => pss_cons (ps_set I.nd (by rw [I.N]; exact hN) (loc_of I hx) (h1 X I) (hs _) (fnl_of I hf)) (h3 X I), fun aS B s F H σ R E q => h2 aS B s F H σ R _ (q.bind.imp fun a s1 q1 p vs F1 H1 f hs hp ns hF hH hz r =>
    h4 a aS B s1 F1 H1 _ (R.setOw f hs hp hF hH hz r) E q1)⟩
/-- a list of one's own is let go (no code) -/
theorem ds_freeze (i : Nat) {n : M γ} (hρ : ρ[i]? = some (.ow l)) (h : DS c sts (ρ.set i (.im (.lst l))) out n) : DS c sts ρ out n := by
  obtain ⟨t, h1, h2⟩ := h
  refine ⟨t, h1, fun aS B s F H σ R E q => ?_⟩
  obtain ⟨F', _, R1⟩ := R.freeze hρ
  exact h2 aS B s F' H σ R1 E q
/-- if t: .. (that returns), then the rest -/
theorem ds_ifR {outR : β → Oc} {inj : β → γ} {mt : M Bool} {ma : M β} {mr : M γ} (hR : ∀ b, isNx (outR b) = false) (hi : ∀ b, out (inj b) = outR b) (ht : DTM c e ρ mt) (ha : DS c sts ρ outR ma) (hr : DS c rest ρ out mr) :
    DS c (.If e sts [] pos :: rest) ρ out (mIf mt (ma >>= fun b => pure (inj b)) mr) := by
  obtain ⟨t, h1, h2⟩ := ht
  obtain ⟨u, h3, h4⟩ := ha
  obtain ⟨w, h5, h6⟩ := hr
  refine ⟨_, fun X I => pss_cons (ps_if (h1 X I) (h3 X I) pss_nil) (h5 X I), fun aS B s F H σ R E q => h2 aS B s F H σ R _ (q.bind.imp fun p s1 q1 F1 H1 f hs => ?_)⟩
  cases p with
  | true =>
    refine h4 aS B s1 F1 H1 σ (R.step f hs) _ (Okk.imp (Okk.bind q1) fun b s2 q2 => ?_)
    have q2 : OcOk aS c.K B s2 E (out (inj b)) := q2
    have hb := hR b
    rw [hi] at q2
    cases ho : outR b with
    | nx ρ => rw [ho] at hb; cases hb
    | rt d => rw [ho] at q2; exact q2
    | ro l => rw [ho] at q2; exact q2
    | bk ρ => rw [ho] at q2; exact q2
    | rw o => rw [ho] at q2; exact q2
    | xr W A ρ => rw [ho] at q2; exact q2
  | false => exact h6 aS B s1 F1 H1 σ (R.step f hs) E q1
/-- if t: .. else: .., both to one state; then the rest -/
theorem ds_ifN {ρm : μ → List Sl} {mt : M Bool} {ma mb : M μ} {mr : μ → M γ} (ht : DTM c e ρ mt) (ha : DS c sts ρ (fun x => .nx (ρm x)) ma) (hb : DS c sts2 ρ (fun x => .nx (ρm x)) mb) (hr : ∀ x, DS c rest (ρm x) out (mr x)) :
    DS c (.If e sts sts2 pos :: rest) ρ out (mIf mt ma mb >>= mr) := by
  obtain ⟨t, h1, h2⟩ := ht
  obtain ⟨u, h3, h4⟩ := ha
  obtain ⟨v, h7, h8⟩ := hb
  obtain ⟨w, h5, h6⟩ := DS.all hr
  refine ⟨_, fun X I => pss_cons (ps_if (h1 X I) (h3 X I) (h7 X I)) (h5 X I), fun aS B s F H σ R E q => h2 aS B s F H σ R _ (Okk.imp (Okk.bind (Okk.bind q)) fun p s1 q1 F1 H1 f hs => ?_)⟩
  cases p with
  | true => exact h4 aS B s1 F1 H1 σ (R.step f hs) _ (Okk.imp q1 fun x s2 q2 σ2 F2 H2 R2 => h6 x aS B s2 F2 H2 σ2 R2 E q2)
  | false => exact h8 aS B s1 F1 H1 σ (R.step f hs) _ (Okk.imp q1 fun x s2 q2 σ2 F2 H2 R2 => h6 x aS B s2 F2 H2 σ2 R2 E q2)
/-- no more than LIM items -/
def chk (n : Nat) : M Unit := if n ≤ LIM then pure () else stuck
theorem Okk.chk {n : Nat} {s : List D} {k : M γ} {P : γ → List D → Prop} (h : Okk ((chk n >>= fun _ => k) s) P) : n ≤ LIM ∧ Okk (k s) P := by
  have h := h.bind
  unfold Dl.chk at h
  split at h
  · rename_i q
    exact ⟨q, h⟩
  · exact h.elim
theorem few1 {p4 : Pos} (hs : NoStar e) (env : Env) : ((backTo p4 (starEach [e] env)).all (fun x => !x.1) && (backToKw p4 (keywordEach [] env)).all (fun x => x.1.isSome) && decide (([e] : List Expr).length + ([] : List Keyword).length + (if ([] : List Keyword).isEmpty then 0 else 1) < 30)) = true := by
  rw [hs] <;> rfl
theorem ow_sq {a : Addr} {vs : List V} (h : H a = some (.lst vs)) : tyV K.K "list" (.ref a) H := .inl ⟨rfl, _, SqL.of h⟩
/-! ### loops -/
/-- what goes round: the items l, as long as G holds -/
structure ItOk (K : Kx) (J : It) (l : List D) (G : Hp → Hp → Prop) : Prop where
  few : l.length ≤ LIM
  go : ∀ F H, Ex F H → G F H → ∀ i, i < l.length → J.go i H
  stop : ∀ F H, Ex F H → G F H → ∀ i, l.length ≤ i → J.stop i H
  yld : ∀ F H, Ex F H → G F H → ∀ i x H' d, l[i]? = some d → J.yld i H x H' → ∃ F', Fp F H F' H' ∧ Rep K F' x d
def EvI {α : Type} (K : Kx) (wi : TI) (fz : Bool) (ρ : List Sl) (enc : α → D) (m : M (List α)) : Prop := ∀ (aS : Option Addr) (B : Bs) (s : List D) (F H : Hp) (σ : L2.St), REnv aS K B s F H σ ρ → ∀ Q : It → Hp → Prop,
  Okk (m s) (fun xs s' => ∀ J F' H' G, Fr aS F H F' H' → SrcAt aS K s' F' H' → ItOk K J (xs.map enc) G → (∀ F'' H'', Fr aS F' H' F'' H'' → G F'' H'') → (fz = true → ∀ F'' H'', Ex F' F'' → Ex F'' H'' → G F'' H'') → Q J H') → wi σ H Q
def DI {α : Type} (c : Ct) (tg e : Expr) (fz : Bool) (ρ : List Sl) (enc : α → D) (m : M (List α)) : Prop := ∃ w, (∀ X, c.Is X → PI X tg e w) ∧ EvI c.K w fz ρ enc m
/-- a target: what it stores -/
def EvG {α : Type} (K : Kx) (g : TG) (js : List Nat) (enc : α → D) (bind : α → List Sl → List Sl) : Prop :=
  (∀ (aS : Option Addr) (B : Bs) (s : List D) (F H : Hp) (σ : L2.St) (ρ : List Sl) (v : V) (a : α), REnv aS K B s F H σ ρ → Rep K F v (enc a) → ∀ Q : L2.St → Hp → Prop, (∀ σ', REnv aS K B s F H σ' (bind a ρ) → (∀ vs, (∀ j ∈ js, j ∈ vs) → wipe σ' vs = wipe σ vs) → Q σ' H) → g v σ H Q)
def DG {α : Type} (c : Ct) (tg : Expr) (js : List Nat) (enc : α → D) (bind : α → List Sl → List Sl) : Prop := ∃ g, (∀ X, c.Is X → PG X tg g) ∧ EvG c.K g js enc bind
theorem wipe_set (v : Option V) {j : Nat} : ∀ {vs : List Nat} {σ : L2.St}, j ∈ vs → wipe (σ.set j v) vs = wipe σ vs
  | k :: vs, σ, h => by
    show (wipe (σ.set j v) vs).set k none = (wipe σ vs).set k none
    by_cases hj : j ∈ vs
    · rw [wipe_set v hj]
    · have e : j = k := by
        rcases List.mem_cons.mp h with e | e
        · exact e
        · exact absurd e hj
      subst e
      have key : ∀ (ws : List Nat) (τ : L2.St), j ∉ ws → wipe (τ.set j v) ws = (wipe τ ws).set j v := by
        intro ws
        induction ws with
        | nil => intro τ _; rfl
        | cons w ws ih =>
          intro τ hw
          show (wipe (τ.set j v) ws).set w none = ((wipe τ ws).set w none).set j v
          rw [ih τ (fun z => hw (List.mem_cons_of_mem _ z)), List.set_comm _ _ (fun z => hw (by rw [z]; exact List.mem_cons_self))]
      rw [key vs σ hj, List.set_set]
theorem dg_name (i : Nat) (hN : c.N[i]? = some x) (hx : Loc c.sc x) (hf : FnL c x) : DG c (.Name x pos) [i] enc (fun a ρ => ρ.set i (.im (enc a))) :=
  ⟨gName i, fun X I => pg_name I.nd (by rw [I.N]; exact hN) (loc_of I hx) (fnl_of I hf), fun aS B s F H σ ρ v a R r Q q => q _ (R.setIm r) fun vs h => wipe_set _ (h i (List.mem_singleton.mpr rfl))⟩
/-- a pair's parts -/
theorem dg_pair [Cool c] {t1 t2 : Expr} {k : Nat} {js1 js2 : List Nat} {e1 : α → D} {e2 : β → D} {b1 : α → List Sl → List Sl} {b2 : β → List Sl → List Sl} (h1 : DG c t1 js1 e1 b1) (h2 : DG c t2 js2 e2 b2)
    (hs1 : ∀ env, (assignEach [t1, t2] env).map (·.2) = assign t1 env :: (assignEach [t2] env).map (·.2) := by intro _; rfl) (hs2 : ∀ env, (assignEach [t2] env).map (·.2) = assign t2 env :: (assignEach [] env).map (·.2) := by intro _; rfl)
    (hn : ∀ env, (assignEach [t1, t2] env).length = 2 := by intro _; rfl) (hst : ∀ env, (assignEach [t1, t2] env).findIdx? (·.1) = none := by intro _; rfl) :
    DG c (.Tuple [t1, t2] k pos) (js1 ++ js2) (eP e1 e2) (fun p ρ => b2 p.2 (b1 p.1 ρ)) := by
  obtain ⟨g1, h3, h4⟩ := h1
  obtain ⟨g2, h5, h6⟩ := h2
  refine ⟨gTup c.K.K 2 (gCons g1 (gCons g2 gNil)), fun X I => ?_, fun aS B s F H σ ρ v p R r Q q => ?_⟩
  · rw [← I.K]
    exact pg_tup (I.calm Cool.h) (pgs_cons (h3 X I) (pgs_cons (h5 X I) pgs_nil (hs2 _)) (hs1 _)) (hn _) (hst _)
  · obtain ⟨a, vs, e0, h7, hz, rs⟩ := r.of_tup
    cases rs with
    | cons r1 rs =>
      cases rs with
      | cons r2 rs =>
        cases rs
        refine ⟨a, _, e0, SqT.of (R.ex _ _ h7), rfl, _, _, rfl, h4 aS B s F H σ ρ _ p.1 R r1 _ fun σ1 R1 w1 => ⟨_, _, rfl, h6 aS B s F H σ1 _ _ p.2 R1 r2 _ fun σ2 R2 w2 => ⟨rfl, q σ2 R2 fun vs hv => ?_⟩⟩⟩
        rw [w2 vs fun j hj => hv j (List.mem_append_right _ hj), w1 vs fun j hj => hv j (List.mem_append_left _ hj)]
/-- the items of a list, a tuple, of a range -/
theorem it_list {p : Addr} {vs : List V} {l : List D} (h3 : F p = some (.lst vs)) (hz : l.length ≤ LIM) (rs : Reps K F vs l) : ItOk K (Itl K.K p) l (fun F2 _ => Ex F F2) := by
  refine ⟨hz, fun F2 H2 ex g i hi => ?_, fun F2 H2 ex g i hi => ?_, fun F2 H2 ex g i y H3 d hd hy => ?_⟩
  · obtain ⟨w, h4, _⟩ := rs.get (List.getElem?_eq_getElem hi)
    exact ⟨vs, w, SqL.of (ex _ _ (g _ _ h3)), h4⟩
  · exact ⟨vs, SqL.of (ex _ _ (g _ _ h3)), by rw [rs.length]; exact hi⟩
  · obtain ⟨rfl, hy⟩ := hy
    have h5 := hy vs (SqL.of (ex _ _ (g _ _ h3)))
    exact ⟨F2, Fp.refl ex, (rs.at i y d h5 hd).mono g⟩
theorem it_tup {p : Addr} {vs : List V} {l : List D} (h3 : F p = some (.tup vs)) (hz : l.length ≤ LIM) (rs : Reps K F vs l) : ItOk K (Itt K.K p) l (fun F2 _ => Ex F F2) := by
  refine ⟨hz, fun F2 H2 ex g i hi => ?_, fun F2 H2 ex g i hi => ?_, fun F2 H2 ex g i y H3 d hd hy => ?_⟩
  · obtain ⟨w, h4, _⟩ := rs.get (List.getElem?_eq_getElem hi)
    exact ⟨vs, w, SqT.of (ex _ _ (g _ _ h3)), h4⟩
  · exact ⟨vs, SqT.of (ex _ _ (g _ _ h3)), by rw [rs.length]; exact hi⟩
  · obtain ⟨rfl, hy⟩ := hy
    have h5 := hy vs (SqT.of (ex _ _ (g _ _ h3)))
    exact ⟨F2, Fp.refl ex, (rs.at i y d h5 hd).mono g⟩
theorem di_lst {tg : Expr} {mx : M (List α)} (ha : DM c a ρ (eL enc) mx) : DI c tg a true ρ enc mx := by
  obtain ⟨t, h1, h2⟩ := ha
  refine ⟨iList c.K.K t, fun X I => by rw [← I.K]; exact pi_list (h1 X I), fun aS B s F H σ R Q q => h2 aS B s F H σ R _ (q.imp fun xs s1 q1 v F1 H1 f hs r => ?_)⟩
  obtain ⟨p, vs, e0, h3, hz, rs⟩ := r.of_lst
  exact ⟨p, e0, ⟨vs, SqL.of (f.fh _ _ h3)⟩, q1 _ F1 H1 _ f hs (it_list h3 hz rs) (fun F2 H2 f2 => f2.ff) fun _ F2 H2 g _ => g⟩
theorem di_tup {tg : Expr} {mx : M (List α)} (ha : DM c a ρ (eT enc) mx) : DI c tg a true ρ enc mx := by
  obtain ⟨t, h1, h2⟩ := ha
  refine ⟨iTup c.K.K t, fun X I => by rw [← I.K]; exact pi_tup (h1 X I), fun aS B s F H σ R Q q => h2 aS B s F H σ R _ (q.imp fun xs s1 q1 v F1 H1 f hs r => ?_)⟩
  obtain ⟨p, vs, e0, h3, hz, rs⟩ := r.of_tup
  exact ⟨p, e0, ⟨vs, SqT.of (f.fh _ _ h3)⟩, q1 _ F1 H1 _ f hs (it_tup h3 hz rs) (fun F2 H2 f2 => f2.ff) fun _ F2 H2 g _ => g⟩
/-- a list that may be one's own -/
theorem di_own {tg : Expr} {xs : List α} (ha : DB c a ρ (eL enc xs)) : DI c tg a false ρ enc (pure xs) := by
  obtain ⟨t, h1, h2⟩ := ha
  refine ⟨iList c.K.K t, fun X I => by rw [← I.K]; exact pi_list (h1 X I), fun aS B s F H σ R Q q => h2 aS B s F H σ R _ fun v F1 H1 f r => ?_⟩
  have hs := R.src.stepP f
  cases r with
  | of r =>
    obtain ⟨p, vs, e0, h3, hz, rs⟩ := r.of_lst
    exact ⟨p, e0, ⟨vs, SqL.of (f.fh _ _ h3)⟩, q _ F1 H1 _ f.fr hs (it_list h3 hz rs) (fun F2 H2 f2 => f2.ff) fun h => nomatch h⟩
  | @ow p vs l ns hF hH hz rs =>
    refine ⟨p, rfl, ⟨vs, SqL.of hH⟩, q _ F1 H1 (fun F2 H2 => Ex F1 F2 ∧ H2 p = some (.lst vs)) f.fr hs ⟨hz, fun F2 H2 ex g i hi => ?_, fun F2 H2 ex g i hi => ?_, fun F2 H2 ex g i y H3 d hd hy => ?_⟩ (fun F2 H2 f2 => ⟨f2.ff, (f2.kp _ _ hF ns hH).1⟩) fun h => nomatch h⟩
    · obtain ⟨w, h4, _⟩ := rs.get (List.getElem?_eq_getElem hi)
      exact ⟨vs, w, SqL.of g.2, h4⟩
    · exact ⟨vs, SqL.of g.2, by rw [rs.length]; exact hi⟩
    · obtain ⟨rfl, hy⟩ := hy
      have h5 := hy vs (SqL.of g.2)
      exact ⟨F2, Fp.refl ex, (rs.at i y d h5 hd).mono g.1⟩
theorem rg_at (a b : Int) (i : Nat) (h : i < (b - a).toNat) : (rg a b)[i]? = some (a + i) := by
  unfold rg
  rw [List.getElem?_map, List.getElem?_range h]
  rfl
theorem it_rg {lo hi : Int} (h : (hi - lo).toNat ≤ LIM) : ItOk K (Itr lo (hi - lo).toNat) ((rg lo hi).map D.int) (fun _ _ => True) := by
  have hl : ((rg lo hi).map D.int).length = (hi - lo).toNat := by rw [List.length_map, rg_length]
  refine ⟨by rw [hl]; exact h, fun F2 H2 ex g i hi => by rw [hl] at hi; exact hi, fun F2 H2 ex g i hi => by rw [hl] at hi; exact hi, fun F2 H2 ex g i y H3 d hd hy => ?_⟩
  obtain ⟨rfl, rfl⟩ := hy
  have hi : i < (hi - lo).toNat := by
    have := (List.getElem?_eq_some_iff.mp hd).1
    rw [hl] at this
    exact this
  rw [List.getElem?_map, rg_at _ _ _ hi] at hd
  cases hd
  exact ⟨F2, Fp.refl ex, .int _⟩
theorem di_range1 {tg : Expr} {mi : M Int} (hg : GI c "range") (hm : c.mg "range" = none) (ha : DM c a ρ D.int mi) (hs : NoStar a := by intro _ _; rfl) : DI c tg (.Call (.Name "range" p2) [a] [] pos) true ρ D.int (mi >>= fun i => mRg 0 i) := by
  obtain ⟨t, h1, h2⟩ := ha
  refine ⟨_, fun X I => pi_range1 (gl_of I hg) (by rw [I.mg]; exact hm) (pa_cons (h1 X I) pa_nil (hs _ _)) (hs _ _), fun aS B s F H σ R Q q => h2 aS B s F H σ R _ (q.bind.imp fun i s1 q1 v F1 H1 f hs1 r => ?_)⟩
  obtain ⟨ok, q2⟩ := q1.rg
  obtain ⟨⟨b1, b2, b3, b4, b5⟩, b6⟩ := rgOk_of ok
  refine ⟨i, by rw [r.int_inv], b3, b4, ?_⟩
  have e0 : i.toNat = (i - 0).toNat := by rw [Int.sub_zero]
  rw [e0]
  exact q2 _ F1 H1 _ f hs1 (it_rg b6) (fun _ _ _ => trivial) fun _ _ _ _ _ => trivial
theorem di_range2 {tg : Expr} {mi mj : M Int} (hg : GI c "range") (hm : c.mg "range" = none) (ha : DM c a ρ D.int mi) (hb : DM c b ρ D.int mj) (hs : NoStar a := by intro _ _; rfl) (hs2 : NoStar b := by intro _ _; rfl) :
    DI c tg (.Call (.Name "range" p2) [a, b] [] pos) true ρ D.int (mi >>= fun i => mj >>= fun j => mRg i j) := by
  obtain ⟨t, h1, h2⟩ := ha
  obtain ⟨u, h3, h4⟩ := hb
  refine ⟨_, fun X I => pi_range2 (gl_of I hg) (by rw [I.mg]; exact hm) (pa_cons (h1 X I) (pa_cons (h3 X I) pa_nil (hs2 _ _)) (hs _ _)) (by rw [hs, hs2]; rfl) (hs2 _ _), fun aS B s F H σ R Q q => h2 aS B s F H σ R _ (q.bind.imp fun i s1 q1 v F1 H1 f hs1 r => h4 aS B s1 F1 H1 σ (R.step f hs1) _ (q1.bind.imp fun j s2 q2 w F2 H2 f2 hs2 r2 => ?_))⟩
  obtain ⟨ok, q3⟩ := q2.rg
  obtain ⟨⟨b1, b2, b3, b4, b5⟩, b6⟩ := rgOk_of ok
  exact ⟨i, j, by rw [r.int_inv, r2.int_inv], ⟨b1, b2, b3, b4⟩, q3 _ F2 H2 _ (f.trans f2) hs2 (it_rg b6) (fun _ _ _ => trivial) fun _ _ _ _ _ => trivial⟩

/-! ### for -/
def loopM (f : δ → α → M (δ ⊕ β)) : List α → δ → M (δ ⊕ β)
  | [], z => pure (.inl z)
  | x :: xs, z => f z x >>= fun r => match r with
    | .inl z' => loopM f xs z'
    | .inr y => pure (.inr y)
def foldM (f : δ → α → M δ) : List α → δ → M δ
  | [], z => pure z
  | x :: xs, z => f z x >>= fun z' => foldM f xs z'
/-- the outcomes of a turn: on with z, or out of the def -/
def ocT {β : Type} (ρl : δ → List Sl) (outR : β → Oc) : δ ⊕ β → Oc
  | .inl z => .nx (ρl z)
  | .inr y => outR y
theorem ds_for [Cool c] {tg : Expr} {ρl : δ → List Sl} {outR : β → Oc} {inj : β → γ} {js : List Nat} {bind : α → List Sl → List Sl} {mi : M (List α)} {z0 : δ} {f : δ → α → M (δ ⊕ β)} {k : δ → M γ}
    (hR : ∀ b, isRt (outR b) = true) (hi : ∀ b, out (inj b) = outR b) (hit : DI c tg e true ρ enc mi) (hg : DG c tg js enc bind) (w : Weak ρ (ρl z0)) (hb : ∀ z x, DS c sts (bind x (ρl z)) (ocT ρl outR) (f z x)) (hr : ∀ z, DS c rest (ρl z) out (k z))
    (hs : ∀ env x, foldedSetIterable e env x = pure x := by intro _ _; rfl) :
    DS c (.For tg e sts [] pos :: rest) ρ out (mi >>= fun xs => loopM f xs z0 >>= fun r => match r with | .inl z => k z | .inr y => pure (inj y)) := by
  obtain ⟨wi, h1, h2⟩ := hit
  obtain ⟨g, h3, h4⟩ := hg
  obtain ⟨tb, h5, h6⟩ := DS.all (f := fun p : δ × α => bind p.2 (ρl p.1)) (n := fun p : δ × α => f p.1 p.2) (fun p => hb p.1 p.2)
  obtain ⟨tr, h7, h8⟩ := DS.all hr
  refine ⟨_, fun X I => pss_cons (ps_for I.quiet (I.calm Cool.h) (h1 X I) (h3 X I) (h5 X I) (hs _)) (h7 X I), fun aS B s F H σ R E q => h2 aS B s F H σ R _ (q.bind.imp fun xs s1 q1 J F1 H1 G fr hs1 it _ hG2 => ?_)⟩
  have hG := hG2 rfl
  let fin : δ ⊕ β → List D → Prop := fun r s' => Okk ((match r with | .inl z => k z | .inr y => pure (inj y) : M γ) s') fun g s'' => OcOk aS c.K B s'' E (out g)
  refine ⟨fun i n σ' H' => n = xs.length - i ∧ i ≤ xs.length ∧ ∃ z s' F', REnv aS c.K B s' F' H' σ' (ρl z) ∧ Ex F1 F' ∧ Okk (loopM f (xs.drop i) z s') fin, ⟨xs.length, rfl, Nat.zero_le _, z0, s1, F1, (R.step fr hs1).weak w, Ex.refl _, q1.bind⟩, ?_⟩
  rintro i n σ' H' ⟨rfl, hle, z, s', F', R', ex, ok⟩
  have g0 := hG F' H' ex R'.ex
  by_cases hlt : i < xs.length
  · refine .inr ⟨it.go F' H' R'.ex g0 i (by rw [List.length_map]; exact hlt), fun σ2 H2 => ∃ z2 s2 F2, REnv aS c.K B s2 F2 H2 σ2 (ρl z2) ∧ Ex F1 F2 ∧ Okk (loopM f (xs.drop (i + 1)) z2 s2) fin, fun σ2 H2 hN => ?_, fun y H2 hy => ?_⟩
    · obtain ⟨z2, s2, F2, R2, ex2, ok2⟩ := hN
      exact ⟨xs.length - (i + 1), by omega, rfl, hlt, z2, s2, F2, R2, ex2, ok2⟩
    · have hd : (xs.map enc)[i]? = some (enc xs[i]) := by rw [List.getElem?_map, List.getElem?_eq_getElem hlt]; rfl
      obtain ⟨F2, fp, ry⟩ := it.yld F' H' R'.ex g0 i y H2 _ hd hy
      have R2 := R'.stepP fp
      refine h4 aS B s' F2 H2 σ' _ y xs[i] R2 ry _ fun σ3 R3 _ => ?_
      rw [List.drop_eq_getElem_cons hlt] at ok
      have ok := Okk.bind ok
      refine h6 (z, xs[i]) aS { B with k := F1 } s' F2 H2 σ3 (R3.since (ex.trans fp.ff)) _ (ok.imp fun r s2 ok2 => ?_)
      cases r with
      | inl z2 => exact fun σ4 F4 H4 R4 => ⟨z2, s2, F4, R4.back (R.kn.trans fr.ff), R4.kn, ok2⟩
      | inr y2 =>
        have ok3 : OcOk aS c.K B s2 E (out (inj y2)) := ok2
        have hb := hR y2
        rw [hi] at ok3
        show OcOk aS c.K { B with k := F1 } s2 _ (outR y2)
        cases ho : outR y2 with
        | nx ρ => rw [ho] at hb; cases hb
        | rt d => rw [ho] at ok3; exact ok3
        | ro l => rw [ho] at ok3; exact ok3
        | rw o =>
          rw [ho] at ok3
          exact fun p fp F H f hs hp r => ok3 p fp F H f hs hp (r.base rfl)
        | bk ρ => rw [ho] at hb; cases hb
        | xr W A ρ =>
          rw [ho] at ok3
          exact fun cls d σ F H R4 hA => ok3 cls d σ F H (R4.back (R.kn.trans fr.ff)) hA
  · have e0 : i = xs.length := by omega
    subst e0
    rw [List.drop_length] at ok
    exact .inl ⟨it.stop F' H' R'.ex g0 _ (by rw [List.length_map]; exact Nat.le_refl _), h8 z aS B s' F' H' σ' R' E ok⟩
end
end Dl

/-! Dl, part F: comprehensions, defs and their calls. -/
namespace Dl
open PySem PySem.Spec PyProof.Rows L2
open Evl (Ex)

/-! ### comprehensions -/
def wipeS (ρ : List Sl) : List Nat → List Sl
  | [] => ρ
  | v :: vs => (wipeS ρ vs).set v .no
def lcM {α β : Type} (p : α → M Bool) (f : α → M β) : List α → M (List β)
  | [] => pure []
  | x :: xs => p x >>= fun b => if b then f x >>= fun y => lcM p f xs >>= fun ys => pure (y :: ys) else lcM p f xs
/-- a comprehension's tests -/
def DQM (c : Ct) (ifs : List Expr) (ρ : List Sl) (m : M Bool) : Prop := ∃ t, (∀ X, c.Is X → PTs X ifs t) ∧ EvTM c.K t ρ m
section
variable {c : Ct} {e a b elt tg : Expr} {es ifs : List Expr} {ρ ρ1 ρ2 : List Sl} {d d1 d2 : D} {ds l : List D} {α β γ μ δ : Type} {enc : α → D} {eb : β → D} {m : M α} {pos p2 p3 p4 : Pos} {x : Str} {aS : Option Addr} {K : Kx} {F F' H H' : Hp} {s : List D} {σ : L2.St} {B : Bs} {p q : Bool} {scope : Scope} {own : List (Str × Nat)}
theorem dq_nil : DQM c [] ρ (pure true) := ⟨_, fun X I => pts_nil, fun aS B s F H σ R Q k => k F H (Fr.refl R.ex) R.src⟩
theorem dq_one {mb : M Bool} (h : DTM c e ρ mb) : DQM c [e] ρ mb := by
  obtain ⟨t, h1, h2⟩ := h
  exact ⟨_, fun X I => pts_one (h1 X I), h2⟩
theorem REnv.wipe (R : REnv aS K B s F H σ ρ) : ∀ vs : List Nat, REnv aS K B s F H (L2.wipe σ vs) (wipeS ρ vs)
  | [] => R
  | v :: vs => (R.wipe vs).setNo rfl trivial
theorem wipe_wipe (σ : L2.St) (vs : List Nat) : L2.wipe (L2.wipe σ vs) vs = L2.wipe σ vs := by
  induction vs with
  | nil => rfl
  | cons v vs ih =>
    show (L2.wipe ((L2.wipe σ vs).set v none) vs).set v none = (L2.wipe σ vs).set v none
    by_cases h : v ∈ vs
    · rw [wipe_set none h, ih]
    · have key : ∀ (ws : List Nat) (τ : L2.St), v ∉ ws → L2.wipe (τ.set v none) ws = (L2.wipe τ ws).set v none := by
        intro ws
        induction ws with
        | nil => intro τ _; rfl
        | cons w ws ih =>
          intro τ hw
          show (L2.wipe (τ.set v none) ws).set w none = ((L2.wipe τ ws).set w none).set v none
          rw [ih τ (fun z => hw (List.mem_cons_of_mem _ z)), List.set_comm _ _ (fun z => hw (by rw [z]; exact List.mem_cons_self))]
      rw [key vs _ h, ih, List.set_set]
theorem DG.all {js : List Nat} {bind : α → List Sl → List Sl} (h : DG c tg js enc bind) : ∃ g, (∀ X, c.Is X → PG X tg g) ∧ EvG c.K g js enc bind := h
theorem DTMs.all {ι : Type} {f : ι → List Sl} {n : ι → M Bool} (h : ∀ i, DQM c ifs (f i) (n i)) : ∃ t, (∀ X, c.Is X → PTs X ifs t) ∧ ∀ i, EvTM c.K t (f i) (n i) :=
  ⟨fun σ H Q => ∃ i, (h i).choose σ H Q, fun X I => ⟨fun pins s σ H Q J ⟨i, z⟩ => ((h i).choose_spec.1 X I).run pins s σ H Q J z⟩, fun i aS B s F H σ R Q k => ⟨i, (h i).choose_spec.2 aS B s F H σ R Q k⟩⟩
/-- the block's context -/
theorem blk_is {X : Cx} (I : c.Is X) (s : Shared) (H : Hp) (C : Addr) (cl : List (Str × Addr)) (fp : List Addr) : (c.blk scope).Is (X.blk s H scope (compEnvC scope cl C X.env) fp) :=
  ⟨I.P, I.w, I.K, I.mg, I.base, I.N, by
    show relabel scope X.env = relS scope c.sc
    rw [← I.sc]
    rfl, rfl, I.calm, I.room, I.hd, I.nd, PassesOwn.never, (fun _ _ _ z => nomatch z), (fun _ _ _ z => nomatch z), (fun z => nomatch z), takes_never⟩
theorem lc_parts {bind : α → List Sl → List Sl} {js : List Nat} {fz : Bool} {mi : M (List α)} {mp : α → M Bool} {mf : α → M β} (own : List (Str × Nat)) (ok : blkC c.N c.sc scope own = true) (hit : DI c tg e fz ρ enc mi) (hg : DG (c.blk scope) tg js enc bind) (hj : ∀ j ∈ js, j ∈ own.map (·.2))
    (ht : ∀ x, DQM (c.blk scope) ifs (bind x (wipeS ρ (own.map (·.2)))) (mp x)) (hf : ∀ x, DM (c.blk scope) elt (bind x (wipeS ρ (own.map (·.2)))) eb (mf x)) :
    ∃ wi g tt te, (∀ X, c.Is X → PI X tg e wi) ∧ (∀ X, (c.blk scope).Is X → PG X tg g) ∧ (∀ X, (c.blk scope).Is X → PTs X ifs tt) ∧ (∀ X, (c.blk scope).Is X → PE X elt te) ∧ EvO c.K (tLc wi g tt te (own.map (·.2))) ρ (fun l => l.map eb) (mi >>= fun xs => lcM mp mf xs) := by
  obtain ⟨wi, h1, h2⟩ := hit
  obtain ⟨g, h3, h4⟩ := hg
  obtain ⟨tt, h5, h6⟩ := DTMs.all ht
  obtain ⟨te, h7, h8⟩ := DM.all hf
  refine ⟨wi, g, tt, te, h1, h3, h5, h7, fun aS B s F H σ R Q q => h2 aS B s F H σ R _ (q.bind.imp fun xs s1 q1 J F1 H1 G fr hs1 it hG _ Dl hD => ?_)⟩
  · have R1 := R.step fr hs1
    have nH : H Dl = none := by
      cases q0 : H Dl with
      | none => rfl
      | some o =>
        by_cases hF : F Dl = none
        · by_cases hn : aS = some Dl
          · exact absurd hn (R1.notSrc hD)
          · rw [fr.dm _ hD] at q0
            cases q0
        · obtain ⟨u, hu⟩ := Option.ne_none_iff_exists'.mp hF
          rw [fr.fh Dl u (fr.ff Dl u hu)] at hD
          cases hD
    have ns := R1.notSrc hD
    let Q2 : List β → List D → Prop := fun l s' => ∀ p vs F' H', Fr aS F H F' H' → SrcAt aS c.K s' F' H' → H p = none → aS ≠ some p → F' p = none → H' p = some (.lst vs) → (l.map eb).length ≤ LIM → Reps c.K F' vs (l.map eb) → Q (.ref p) H'
    have q2 : Okk (lcM mp mf xs s1) Q2 := q1
    have start : REnv aS c.K B s1 F1 (upd H1 Dl (.lst [])) σ ρ := R1.stepP (Fp.own R1.ex hD)
    refine ⟨fun i n H' => n = xs.length - i ∧ i ≤ xs.length ∧ ∃ (ys : List β) (vs : List V) (s' : List D) (F' : Hp), Fr aS F1 H1 F' H' ∧ SrcAt aS c.K s' F' H' ∧ F' Dl = none ∧ H' Dl = some (.lst vs) ∧ Reps c.K F' vs (ys.map eb) ∧ ys.length ≤ i ∧ Okk (lcM mp mf (xs.drop i) s') (fun zs s'' => Q2 (ys ++ zs) s''),
      ⟨xs.length, rfl, Nat.zero_le _, [], [], s1, F1, (Fp.own R1.ex hD).fr, start.src, Ex.none_of R1.ex hD, upd_same, (show Reps c.K F1 [] (([] : List β).map eb) from .nil), Nat.le_refl _, q2⟩, ?_⟩
    rintro i n H' ⟨rfl, hle, ys, vs, s', F', f', hs', hF', hH', rs, hy, ok2⟩
    have g0 := hG F' H' f'
    have few : xs.length ≤ LIM := by
      have := it.few
      rw [List.length_map] at this
      exact this
    have R2 : REnv aS c.K B s' F' H' σ ρ := R1.step f' hs'
    by_cases hlt : i < xs.length
    · rw [List.drop_eq_getElem_cons hlt] at ok2
      refine .inr ⟨it.go F' H' R2.ex g0 i (by rw [List.length_map]; exact hlt), fun H2 => ∃ (ys : List β) (vs : List V) (s' : List D) (F' : Hp), Fr aS F1 H1 F' H2 ∧ SrcAt aS c.K s' F' H2 ∧ F' Dl = none ∧ H2 Dl = some (.lst vs) ∧ Reps c.K F' vs (ys.map eb) ∧ ys.length ≤ i + 1 ∧ Okk (lcM mp mf (xs.drop (i + 1)) s') (fun zs s'' => Q2 (ys ++ zs) s''), fun H2 hN => ?_, fun y H2 hyl => ?_⟩
      · exact ⟨xs.length - (i + 1), by omega, rfl, hlt, hN⟩
      · have hd : (xs.map enc)[i]? = some (enc xs[i]) := by rw [List.getElem?_map, List.getElem?_eq_getElem hlt]; rfl
        obtain ⟨F2, fp, ry⟩ := it.yld F' H' R2.ex g0 i y H2 _ hd hyl
        have R3 := (R2.stepP fp).wipe (own.map (·.2))
        refine h4 aS B s' F2 H2 _ _ y xs[i] R3 ry _ fun σ3 R4 hw => ⟨?_, ?_⟩
        · rw [hw _ hj, wipe_wipe]
        · refine h6 xs[i] aS B s' F2 H2 σ3 R4 _ (ok2.bind.imp fun bb s2 ok3 F3 H3 f3 hs3 => ?_)
          have keep3 := f3.kp Dl _ (fp.kp Dl _ hF' hH') ns (fp.hh _ _ hH')
          cases bb with
          | true =>
            refine h8 xs[i] aS B s2 F3 H3 σ3 (R4.step f3 hs3) _ (Okk.imp (Okk.bind ok3) fun y2 s3 ok4 v F4 H4 f4 hs4 r4 => ?_)
            have keep4 := f4.kp Dl _ keep3.2 ns keep3.1
            have hvl : vs.length = ys.length := by rw [rs.length, List.length_map]
            have fall : Fr aS F1 H1 F4 H4 := ((f'.trans fp.fr).trans f3).trans f4
            have ex4 : Ex F4 (upd H4 Dl (.lst (vs ++ [v]))) := fun b u hb => by
              rw [upd_ne (ne_of_none hb keep4.2)]
              exact f4.fh b u hb
            refine ⟨vs, keep4.1, by rw [hvl]; exact lim_lt (by omega), ys ++ [y2], vs ++ [v], s3, F4, ⟨fall.ff, ex4, fun b o h9 h10 h11 => ?_, fun b q => fall.dm b (dm_upd b q)⟩, hs4.keep ns (fun u e => by rw [keep4.1] at e; cases e; rfl), keep4.2, upd_same, ?_, by rw [List.length_append]; exact Nat.add_le_add_right hy 1, ?_⟩
            · rw [upd_ne (ne_of_none h11 hD)]
              exact fall.kq b o h9 h10 h11
            · rw [List.map_append]
              exact (rs.mono (fp.ff.trans (f3.ff.trans f4.ff))).append (.cons r4 .nil)
            · exact (Okk.bind ok4).imp fun zs s5 h13 => by
                rw [List.append_assoc]
                exact h13
          | false => exact ⟨ys, vs, s2, F3, (f'.trans fp.fr).trans f3, hs3, keep3.2, keep3.1, rs.mono (fp.ff.trans f3.ff), Nat.le_succ_of_le hy, ok3⟩
    · have e0 : i = xs.length := by omega
      subst e0
      rw [List.drop_length] at ok2
      have ok3 : Q2 (ys ++ []) s' := ok2
      rw [List.append_nil] at ok3
      exact .inl ⟨it.stop F' H' R2.ex g0 _ (by rw [List.length_map]; exact Nat.le_refl _), ok3 Dl vs F' H' (fr.trans f') hs' nH ns hF' hH' (by rw [List.length_map]; exact Nat.le_trans hy few) rs⟩
theorem do_lc [Cool c] {bind : α → List Sl → List Sl} {js : List Nat} {fz : Bool} {mi : M (List α)} {mp : α → M Bool} {mf : α → M β} (own : List (Str × Nat)) (ok : blkC c.N c.sc scope own = true) (hit : DI c tg e fz ρ enc mi) (hg : DG (c.blk scope) tg js enc bind) (hj : ∀ j ∈ js, j ∈ own.map (·.2))
    (ht : ∀ x, DQM (c.blk scope) ifs (bind x (wipeS ρ (own.map (·.2)))) (mp x)) (hf : ∀ x, DM (c.blk scope) elt (bind x (wipeS ρ (own.map (·.2)))) eb (mf x)) (hs : ∀ env x, foldedSetIterable e env x = pure x := by intro _ _; rfl) :
    DO c (.ListComp elt [⟨tg, e, ifs, 0⟩] scope pos) ρ (fun l => l.map eb) (mi >>= fun xs => lcM mp mf xs) := by
  obtain ⟨wi, g, tt, te, h1, h3, h5, h7, ev⟩ := lc_parts own ok hit hg hj ht hf
  refine ⟨tLc wi g tt te (own.map (·.2)), fun X I => ?_, ev⟩
  have ok' : BlkOk X.N X.env.scope scope own := by
    rw [I.N, I.sc]
    exact blkOk_by ok
  exact pe_lc (I.calm Cool.h) I.nd (h1 X I) ok' (fun s H C cl fp => h3 _ (blk_is I s H C cl fp)) (fun s H C cl fp => h5 _ (blk_is I s H C cl fp)) (fun s H C cl fp => h7 _ (blk_is I s H C cl fp)) (hs _)
end
end Dl

/-! Dl, part G: defs and their calls, displays of drawn things. -/
namespace Dl
open PySem PySem.Spec PyProof.Rows L2
open Evl (Ex)

/-- an argument of a def: data, or the source -/
inductive Ar where
  | d (x : D) | s
def ArOk (aS : Option Addr) (K : Kx) (F : Hp) (v : V) : Ar → Prop
  | .d x => Rep K F v x
  | .s => ∃ a, aS = some a ∧ v = .ref a
abbrev aN : Unit → List Ar := fun _ => []
abbrev aC {α β : Type} (e : α → D) (r : β → List Ar) : α × β → List Ar := fun p => .d (e p.1) :: r p.2
abbrev aR {β : Type} (r : β → List Ar) : β → List Ar := fun p => .s :: r p
/-- what a def does: from arguments, by draws, to data; to a new list -/
def spM {A B : Type} (K : Kx) (encA : A → List Ar) (encB : B → D) (f : A → M B) : Sp := fun vs H Q _ => ∃ (aS : Option Addr) (s : List D) (F : Hp) (a : A), Ex F H ∧ SrcAt aS K s F H ∧ Paired (ArOk aS K F) vs (encA a) ∧
  Okk (f a s) fun b s' => ∀ v F' H', Fr aS F H F' H' → SrcAt aS K s' F' H' → Rep K F' v (encB b) → Q v H'
def spO {A B : Type} (K : Kx) (encA : A → List Ar) (encB : B → List D) (f : A → M B) : Sp := fun vs H Q _ => ∃ (aS : Option Addr) (s : List D) (F : Hp) (a : A), Ex F H ∧ SrcAt aS K s F H ∧ Paired (ArOk aS K F) vs (encA a) ∧
  Okk (f a s) fun b s' => ∀ p ws F' H', Fr aS F H F' H' → SrcAt aS K s' F' H' → H p = none → aS ≠ some p → F' p = none → H' p = some (.lst ws) → (encB b).length ≤ LIM → Reps K F' ws (encB b) → Q (.ref p) H'
/-- it stands under its name -/
structure FnI (g : Gx) (k : Nat) (x : Str) (sp : Sp) : Prop where
  ex : ∃ (f : Addr) (fd : FuncData) (ps : List Str), FnOk g.P g.w g.K.K g.mg g.base CX0 k f fd ps sp ∧ g.mg x = some (.ref f) ∧ PySem.W.keepIn g.K.K (.ref f) = true ∧ Binds g.K.K fd ps []
theorem FnI.mono {g : Gx} {j k : Nat} {x : Str} {sp : Sp} (h : FnI g j x sp) (hk : j ≤ k) : FnI g k x sp := by
  obtain ⟨f, fd, ps, h1, h2⟩ := h.ex
  exact ⟨f, fd, ps, h1.mono hk, h2⟩

/-- arguments, one behind another -/
def EvF {A : Type} (K : Kx) (ta : TA) (ρ : List Sl) (enc : A → List Ar) (m : ∀ {γ : Type}, (A → M γ) → M γ) : Prop := ∀ (aS : Option Addr) (B : Bs) (s : List D) (F H : Hp) (σ : L2.St), REnv aS K B s F H σ ρ → ∀ (Q : List V → Hp → Prop) (γ : Type) (k : A → M γ) (P : γ → List D → Prop),
  Okk (m k s) P → (∀ a s' vs F' H', Okk (k a s') P → Fr aS F H F' H' → SrcAt aS K s' F' H' → Paired (ArOk aS K F') vs (enc a) → Q vs H') → ta σ H Q
def DF {A : Type} (c : Ct) (ρ : List Sl) (es : List Expr) (enc : A → List Ar) (m : ∀ {γ : Type}, (A → M γ) → M γ) : Prop := ∃ t, (∀ X, c.Is X → PA X es t) ∧ EvF c.K t ρ enc m
section
variable {c : Ct} {e a b : Expr} {es : List Expr} {sts rest : List Stmt} {ρ ρ1 : List Sl} {d d1 d2 : D} {ds l : List D} {α β γ A A' R : Type} {enc : α → D} {m : M α} {pos p2 p3 p4 : Pos} {x : Str} {aS : Option Addr} {K : Kx} {F F' H H' : Hp} {s : List D} {σ : L2.St} {B : Bs}
theorem ArOk.mono {v : V} {y : Ar} (e : Ex F F') (h : ArOk aS K F v y) : ArOk aS K F' v y := by
  cases y with
  | d x => exact Rep.mono e h
  | s => exact h
theorem df_nil : DF c ρ [] aN (fun k => k ()) := ⟨_, fun X I => pa_nil, fun aS B s F H σ R Q γ k P h q => q () s [] F H h (Fr.refl R.ex) R.src .nil⟩
theorem df_cons {r : A → List Ar} {mr : ∀ {γ : Type}, (A → M γ) → M γ} (h : DM c e ρ enc m) (hr : DF c ρ es r mr) (hs : NoStar e := by intro _ _; rfl) : DF c ρ (e :: es) (aC enc r) (fun k => m >>= fun a => mr fun b => k (a, b)) := by
  obtain ⟨t, h1, h2⟩ := h
  obtain ⟨u, h3, h4⟩ := hr
  refine ⟨_, fun X I => pa_cons (h1 X I) (h3 X I) (hs _ _), fun aS B s F H σ R Q γ k P hk q => h2 aS B s F H σ R _ (hk.bind.imp fun a s1 k1 v F1 H1 f1 hs1 r1 => h4 aS B s1 F1 H1 σ (R.step f1 hs1) _ γ _ P k1 fun b s2 vs F2 H2 k2 f2 hs2 r2 => q (a, b) s2 (v :: vs) F2 H2 k2 (f1.trans f2) hs2 (.cons (r1.mono f2.ff) r2))⟩
/-- the source, handed on -/
theorem df_src (i : Nat) {r : A → List Ar} {mr : ∀ {γ : Type}, (A → M γ) → M γ} (hN : c.N[i]? = some x) (hv : Vis c.sc x) (hρ : ρ[i]? = some .sr) (hr : DF c ρ es r mr) (hd : (x == ("__debug__" : Str)) = false := by decide) (hcd : (x == ("__classdict__" : Str)) = false := by decide) : DF c ρ (.Name x pos :: es) (aR r) mr := by
  obtain ⟨u, h3, h4⟩ := hr
  refine ⟨_, fun X I => pa_cons (pe_var (i := i) (by rw [I.N]; exact hN) (by rw [I.sc]; exact hv) hd hcd) (h3 X I), fun aS B s F H σ R Q γ k P hk q => ?_⟩
  obtain ⟨_, _, e0, ⟨p, rfl, e2⟩, _⟩ := R.slot hρ
  exact ⟨.ref p, e0, h4 aS B s F H σ R _ γ k P hk fun b s2 vs F2 H2 k2 f2 hs2 r2 => q b s2 (.ref p :: vs) F2 H2 k2 f2 hs2 (.cons ⟨p, e2, rfl⟩ r2)⟩
theorem pcall [Cool c] {g : Gx} {X : Cx} {j : Nat} {sp : Sp} {t : TA} (I : c.Is X) (hf : FnI c.g j x sp) (hk : j ≤ c.k) (hg : GI c x) (ha : PA X (e :: es) t) (hs : NoStar e) (hpl : ∀ env, (backTo pos (starEach es env)).any (·.1) = false) (hdb : (x == ("__debug__" : Str)) = false) :
    PE X (.Call (.Name x p2) (e :: es) [] pos) (tCall sp [] E0 t) := by
  obtain ⟨f, fd, ps, h1, h2, h3, h4⟩ := hf.ex
  exact pe_call (CX := CX0) (k := j) (f := f) (fd := fd) (ps := ps) (by rw [I.P, I.w, I.K, I.mg, I.base]; exact h1) ((I.roomC Cool.h).mono hk) (gl_of I hg) (by rw [I.mg]; exact h2) (by rw [I.K]; exact h3) (by rw [I.K]; exact h4) .nil pass0 ha hdb (hs _ _) (hpl _)
/-- f(e, ..) -/
theorem dm_fn [Cool c] {j : Nat} {encA : A → List Ar} {encB : R → D} {f : A → M R} {mk : ∀ {γ : Type}, (A → M γ) → M γ} (hf : FnI c.g j x (spM c.K encA encB f)) (hk : j ≤ c.k) (hg : GI c x) (ha : DF c ρ (e :: es) encA mk) (hs : NoStar e := by intro _ _; rfl) (hpl : ∀ env, (backTo pos (starEach es env)).any (·.1) = false := by intro _; rfl) (hdb : (x == ("__debug__" : Str)) = false := by decide) :
    DM c (.Call (.Name x p2) (e :: es) [] pos) ρ encB (mk f) := by
  obtain ⟨t, h1, h2⟩ := ha
  exact ⟨_, fun X I => pcall (g := c.g) I hf hk hg (h1 X I) hs hpl hdb, fun aS B s F H σ R Q q => h2 aS B s F H σ R _ _ f _ q fun a s1 vs F1 H1 ok fr hs1 r => by
    show spM c.K encA encB f (vs ++ []) H1 Q E0
    rw [List.append_nil]
    exact ⟨aS, s1, F1, a, fr.fh, hs1, r, ok.imp fun b s2 k v F2 H2 f2 hs2 r2 => k v F2 H2 (fr.trans f2) hs2 r2⟩⟩
theorem Fr.none_of {p : Addr} (f : Fr aS F H F' H') (ns : aS ≠ some p) (h : H' p = none) : H p = none := by
  cases q0 : H p with
  | none => rfl
  | some o =>
    by_cases hF : F p = none
    · rw [f.dm _ h] at q0
      cases q0
    · obtain ⟨u, hu⟩ := Option.ne_none_iff_exists'.mp hF
      rw [f.fh p u (f.ff p u hu)] at h
      cases h
theorem do_fn [Cool c] {j : Nat} {encA : A → List Ar} {encB : R → List D} {f : A → M R} {mk : ∀ {γ : Type}, (A → M γ) → M γ} (hf : FnI c.g j x (spO c.K encA encB f)) (hk : j ≤ c.k) (hg : GI c x) (ha : DF c ρ (e :: es) encA mk) (hs : NoStar e := by intro _ _; rfl) (hpl : ∀ env, (backTo pos (starEach es env)).any (·.1) = false := by intro _; rfl) (hdb : (x == ("__debug__" : Str)) = false := by decide) :
    DO c (.Call (.Name x p2) (e :: es) [] pos) ρ encB (mk f) := by
  obtain ⟨t, h1, h2⟩ := ha
  exact ⟨_, fun X I => pcall (g := c.g) I hf hk hg (h1 X I) hs hpl hdb, fun aS B s F H σ R Q q => h2 aS B s F H σ R _ _ f _ q fun a s1 vs F1 H1 ok fr hs1 r => by
    show spO c.K encA encB f (vs ++ []) H1 Q E0
    rw [List.append_nil]
    exact ⟨aS, s1, F1, a, fr.fh, hs1, r, ok.imp fun b s2 k p ws F2 H2 f2 hs2 hp ns hF hH hz r2 => k p ws F2 H2 (fr.trans f2) hs2 (fr.none_of ns hp) ns hF hH hz r2⟩⟩
/-! ### a def by its body -/
def startS (N : List Str) (as : List Ar) : List Sl := (as.map fun | .d x => .im x | .s => .sr) ++ List.replicate (N.length - as.length) .no
theorem paired_at {α β : Type} {G : α → β → Prop} : ∀ {l : List α} {m : List β}, Paired G l m → ∀ {i : Nat} {x : α} {y : β}, l[i]? = some x → m[i]? = some y → G x y
  | _, _, .nil, i, x, y, h, _ => by simp at h
  | _, _, .cons r _, 0, x, y, h, h' => by
    have e1 := Option.some.inj h
    have e2 := Option.some.inj h'
    rw [← e1, ← e2]
    exact r
  | _, _, .cons _ t, i + 1, x, y, h, h' => paired_at t (i := i) (by simpa using h) (by simpa using h')
theorem start_env {N : List Str} {vs : List V} {as : List Ar} (e : Ex F H) (hs : SrcAt aS K s F H) (r : Paired (ArOk aS K F) vs as) : REnv aS K ⟨F, H, F, none⟩ s F H (L2.start N vs) (startS N as) := by
  have hl : vs.length = as.length := Paired.length r
  refine ⟨Fr.refl e, Ex.refl _, hs, by unfold L2.start startS; rw [List.length_append, List.length_append, List.length_map, List.length_map, List.length_replicate, List.length_replicate, hl], fun _ => [], fun i p hp => absurd hp List.not_mem_nil, fun i j p _ hp => absurd hp List.not_mem_nil, fun i x y h1 h2 => ?_⟩
  unfold L2.start at h1
  unfold startS at h2
  by_cases hi : i < vs.length
  · rw [List.getElem?_append_left (by rw [List.length_map]; exact hi), List.getElem?_map] at h1
    rw [List.getElem?_append_left (by rw [List.length_map, ← hl]; exact hi), List.getElem?_map] at h2
    cases hv : vs[i]? with
    | none => rw [hv] at h1; cases h1
    | some v =>
      rw [hv] at h1
      cases ha : as[i]? with
      | none => rw [ha] at h2; cases h2
      | some w =>
        rw [ha] at h2
        cases h1
        have q := paired_at r hv ha
        cases w with
        | d z => cases h2; exact ⟨v, rfl, q⟩
        | s =>
          cases h2
          obtain ⟨p, e1, e2⟩ := q
          exact ⟨p, by rw [e2], e1⟩
  · rw [List.getElem?_append_right (by rw [List.length_map, ← hl]; omega)] at h2
    rw [List.getElem?_replicate] at h2
    split at h2
    · cases h2; trivial
    · cases h2
/-- how a def's end is told: a value, or nothing -/
def outV {B : Type} (encB : B → D) : B → Oc := fun b => .rt (encB b)
def outL {B : Type} (encB : B → List D) : B → Oc := fun b => .ro (encB b)
abbrev cxD (g : Gx) (N : List Str) (sc : Scope) (k : Nat) : Ct := ⟨g, N, sc, fun _ => true, k, none, false, none, true, fun _ _ _ _ => False⟩
instance {g : Gx} {N : List Str} {sc : Scope} {k : Nat} : Cool (cxD g N sc k) := ⟨rfl⟩
theorem body_is {g : Gx} {N : List Str} {qual : Str} {sc : Scope} {f : Addr} {cd : Value} {A : Around} {outer : List Env} {s : Shared} {H : Hp} {E : XK} {k : Nat} (nd : N.Nodup) (hr : Room k (A.deeper (envOfC qual sc s.heap.objs.size f cd))) :
    (cxD g N sc k).Is (cxOf CX0 g.P g.w g.K.K g.mg g.base N qual sc f cd A outer s H E).nox :=
  ⟨rfl, rfl, rfl, rfl, rfl, rfl, rfl, rfl, fun _ => rfl, ⟨hr.dp, hr.un⟩, fun _ => hr.hd, nd, PassesOwn.never, (fun _ _ _ z => nomatch z), (fun _ _ _ z => nomatch z), fun _ => ⟨rfl, rfl⟩, takes_never⟩
theorem FnI.mk' {g : Gx} {qual : Str} {st : Stmt} {f : Addr} {fd : FuncData} {N ps : List Str} {k : Nat} {sp : Sp} (F : Fun g.K.K x qual st f fd) (gx : g.mg x = some (.ref f)) (S : FnScope N ps (defScope st)) (bd : Binds g.K.K fd ps [])
    (len : ∀ vs H Q E, sp vs H Q E → vs.length = ps.length)
    (body : ∀ vs H Q E, sp vs H Q E → ∃ t, (∀ X, (cxD g N (defScope st) k).Is X → PSs X (defBody st) t) ∧ t { nx := fun _ H' => Q .non H', rt := Q } (L2.start N vs) H) : FnI g (k + 1) x sp :=
  ⟨f, fd, ps, F.ok S len fun cdv A outer s H vs Q E hr h => by
    obtain ⟨t, h1, h2⟩ := body vs H Q E h
    exact ⟨t, h1 _ (body_is S.nd hr), h2⟩, gx, F.kp, bd⟩
/-- a def that gives data -/
theorem FnI.val {g : Gx} {qual : Str} {st : Stmt} {f0 : Addr} {fd : FuncData} {N ps : List Str} {k : Nat} {encA : A → List Ar} {encB : R → D} {f : A → M R} (Fu : Fun g.K.K x qual st f0 fd) (gx : g.mg x = some (.ref f0)) (S : FnScope N ps (defScope st)) (bd : Binds g.K.K fd ps [])
    (hl : ∀ a, (encA a).length = ps.length) (body : ∀ a, DS (cxD g N (defScope st) k) (defBody st) (startS N (encA a)) (outV encB) (f a)) : FnI g (k + 1) x (spM g.K encA encB f) := by
  refine FnI.mk' Fu gx S bd (fun vs H Q E h => ?_) fun vs H Q E h => ?_
  · obtain ⟨aS, s, F, a, _, _, r, _⟩ := h
    rw [Paired.length r]
    exact hl a
  · obtain ⟨aS, s, F, a, e, hs, r, ok⟩ := h
    obtain ⟨t, h1, h2⟩ := body a
    exact ⟨t, h1, h2 aS ⟨F, H, F, none⟩ s F H _ (start_env e hs r) _ (ok.imp fun b s' k v F' H' f' hs' r' => k v F' H' f' hs' r')⟩
/-- .. that gives a new list -/
theorem FnI.own {g : Gx} {qual : Str} {st : Stmt} {f0 : Addr} {fd : FuncData} {N ps : List Str} {k : Nat} {encA : A → List Ar} {encB : R → List D} {f : A → M R} (Fu : Fun g.K.K x qual st f0 fd) (gx : g.mg x = some (.ref f0)) (S : FnScope N ps (defScope st)) (bd : Binds g.K.K fd ps [])
    (hl : ∀ a, (encA a).length = ps.length) (body : ∀ a, DS (cxD g N (defScope st) k) (defBody st) (startS N (encA a)) (outL encB) (f a)) : FnI g (k + 1) x (spO g.K encA encB f) := by
  refine FnI.mk' Fu gx S bd (fun vs H Q E h => ?_) fun vs H Q E h => ?_
  · obtain ⟨aS, s, F, a, _, _, r, _⟩ := h
    rw [Paired.length r]
    exact hl a
  · obtain ⟨aS, s, F, a, e, hs, r, ok⟩ := h
    obtain ⟨t, h1, h2⟩ := body a
    exact ⟨t, h1, h2 aS ⟨F, H, F, none⟩ s F H _ (start_env e hs r) _ (ok.imp fun b s' k p ws F' H' f' hs' nb ns hF hH hz r' => k p ws F' H' f' hs' nb ns hF hH hz r')⟩
/-- .. that falls off its end -/
theorem FnI.proc {g : Gx} {qual : Str} {st : Stmt} {f0 : Addr} {fd : FuncData} {N ps : List Str} {k : Nat} {encA : A → List Ar} {f : A → M Unit} {ρe : A → List Sl} (Fu : Fun g.K.K x qual st f0 fd) (gx : g.mg x = some (.ref f0)) (S : FnScope N ps (defScope st)) (bd : Binds g.K.K fd ps [])
    (hl : ∀ a, (encA a).length = ps.length) (body : ∀ a, DS (cxD g N (defScope st) k) (defBody st) (startS N (encA a)) (fun _ => .nx (ρe a)) (f a)) : FnI g (k + 1) x (spM g.K encA eU f) := by
  refine FnI.mk' Fu gx S bd (fun vs H Q E h => ?_) fun vs H Q E h => ?_
  · obtain ⟨aS, s, F, a, _, _, r, _⟩ := h
    rw [Paired.length r]
    exact hl a
  · obtain ⟨aS, s, F, a, e, hs, r, ok⟩ := h
    obtain ⟨t, h1, h2⟩ := body a
    exact ⟨t, h1, h2 aS ⟨F, H, F, none⟩ s F H _ (start_env e hs r) _ (ok.imp fun b s' k σ' F' H' R' => k .non F' H' R'.fr R'.src .non)⟩
end
end Dl

/-! Dl, part H: isinstance; built-ins and operators over what is drawn. -/
namespace Dl
open PySem PySem.Spec PyProof.Rows L2
open Evl (Ex)

/-- .. a locked dict with tuples as keys besides -/
inductive TyZ (K : PySem.W.Frag) (H : Hp) : V → Value → Prop where
  | x {v : V} {t : Value} (h : TyX K H v t) : TyZ K H v t
  | fT {a : Addr} {o : Obj} {xs : List V} (e : H a = some (.frz o (.tup xs))) : TyZ K H (.ref a) (.type "tuple")
  | fDT {a : Addr} {o : Obj} {kvs : List (List Key × V)} (e : H a = some (.frz o (.dT kvs))) : TyZ K H (.ref a) (.type "dict")
def rIsiZ (K : PySem.W.Frag) : List V → Hp → VK → Prop := fun xs H Q => ∃ (x c : V) (t u : Value) (b : Bool), xs = [x, c] ∧ ClsV c u ∧ TyZ K H x t ∧ PySem.W.kitOne K t u = some b ∧ Q (.bl b) H
section
variable {X : Cx} {pins : List (Addr × Obj)} {σ : L2.St} {H : Hp} {s : Shared}
theorem kit_ofZ {x : V} {u t : Value} (I : Inv X pins σ H s) (rx : RelV x u) (ty : TyZ X.K H x t) : ∃ P : Heap → Prop, PySem.W.KitX X.K u t P ∧ P s.heap ∧ u ≠ .builtin "__main__.__loader__#opaque" := by
  cases ty with
  | x h => exact kit_of I rx h
  | @fT a ob xs ea =>
    cases (show u = Value.ref a from rx)
    obtain ⟨_, _, _, _, o, h1, h2, _⟩ := (show ObjOk X.prog X.w H s.heap a (.frz ob (.tup xs)) from I.hok a _ ea)
    exact ⟨_, PySem.W.kitx_tuple, ⟨o, h1, h2⟩, fun z => nomatch z⟩
  | @fDT a ob kvs ea =>
    cases (show u = Value.ref a from rx)
    obtain ⟨_, _, _, xs, _, o, es, ep, h1, h2, _⟩ := (show ObjOk X.prog X.w H s.heap a (.frz ob (.dT kvs)) from I.hok a _ ea)
    exact ⟨_, PySem.W.kitx_dict, ⟨o, h1, h2.1⟩, fun z => nomatch z⟩
theorem call_isiZ : CallR X (.builtin "isinstance") (rIsiZ X.K) := by
  intro pins s σ H xs us Q I r h
  obtain ⟨x, c, t, u, b, rfl, k, ty, e, q⟩ := h
  obtain ⟨u1, u2, rfl, r1, r2⟩ := vals2 r
  have e2 := k.eq r2
  subst e2
  obtain ⟨P, Z, p, hx⟩ := kit_ofZ I r1 ty
  exact PySem.W.kia_one Z I.kIn p e hx fun tk => ⟨.bl b, H, I.tok tk, rfl, q⟩
end
def tyN : D → Option String
  | .non => some "NoneType"
  | .bl _ => some "bool"
  | .int _ => some "int"
  | .str _ => some "str"
  | .lst _ => some "list"
  | .tup _ => some "tuple"
  | .tpd _ => some "tuple"
  | .dct _ => some "dict"
  | .dtt _ => some "dict"
  | .scr _ => some "list"
  | .obj _ _ => none
def subT (a b : String) : Bool := a == b || (a == "bool" && b == "int")
def tys6 : List String := ["int", "bool", "str", "tuple", "list", "dict"]
theorem kit_tab : ∀ a ∈ "NoneType" :: tys6, ∀ b ∈ tys6, kitB a b = some (subT a b) := by decide +kernel
/-- isinstance(d, n), n one of the six -/
def isB (n : String) (d : D) : Bool := match tyN d with
  | some a => subT a n
  | none => false
section
variable {c : Ct} {e a b : Expr} {es : List Expr} {ρ : List Sl} {d d1 d2 : D} {ds l : List D} {α β γ : Type} {enc : α → D} {eb : β → D} {m : M α} {pos p2 p3 p4 : Pos} {x y : Str} {aS : Option Addr} {K : Kx} {F F' H H' : Hp} {s : List D} {σ : L2.St} {B : Bs}
theorem tyN_mem : ∀ {d : D} {a : String}, tyN d = some a → a ∈ "NoneType" :: tys6 := by
  intro d a h
  cases d <;> (first | (cases h; decide) | cases h)
theorem tyX_of {v : V} (g : Gx) (e : Ex F H) (r : BRep aS g.K F H v d) : ∃ t, TyZ g.K.K H v t ∧ ∀ n ∈ tys6, PySem.W.kitOne g.K.K t (.type n) = some (isB n d) := by
  have plain : ∀ a, tyN d = some a → ∀ n ∈ tys6, PySem.W.kitOne g.K.K (.type a) (.type n) = some (isB n d) := fun a h n hn => by
    have q := kit_tab a (tyN_mem h) n hn
    unfold isB
    rw [h]
    exact kit_ty q
  cases r with
  | of r =>
    cases r with
    | non => exact ⟨_, .x <| .base .non, plain _ rfl⟩
    | bl b => exact ⟨_, .x <| .base (.bl b), plain _ rfl⟩
    | int i => exact ⟨_, .x <| .base (.int i), plain _ rfl⟩
    | str x => exact ⟨_, .x <| .base (.str x), plain _ rfl⟩
    | lst h _ _ _ => exact ⟨_, .x <| .base (.lst (e _ _ h)), plain _ rfl⟩
    | tup h _ _ _ => exact ⟨_, .x <| .base (.tup (e _ _ h)), plain _ rfl⟩
    | tpd h _ _ _ _ => exact ⟨_, .fT (e _ _ h), plain _ rfl⟩
    | dk h _ _ _ => exact ⟨_, .x <| .fDict (e _ _ h), plain _ rfl⟩
    | dt h _ _ _ => exact ⟨_, .fDT (e _ _ h), plain _ rfl⟩
    | @scr a vs l h _ _ _ =>
      rcases h with (h | ⟨o, h⟩) | ⟨o, its, k, h1, h2, _⟩
      · exact ⟨_, .x <| .base (.lst (e _ _ h)), plain _ rfl⟩
      · exact ⟨_, .x <| .base (.frz (e _ _ h)), plain _ rfl⟩
      · exact ⟨_, .x <| .kList h1 h2, plain _ rfl⟩
    | @obj nm x C dx gs fs hc h ho _ _ =>
      have k := g.cls _ _ hc
      refine ⟨_, .x <| .base (.ins (e _ _ h) k.cl k.ha k.hn k.ht k.hm), fun n hn => ?_⟩
      have z : isB n (.obj nm fs) = false := rfl
      rw [z]
      rcases List.mem_cons.mp hn with q | hn
      · rw [q]; exact k.ki
      rcases List.mem_cons.mp hn with q | hn
      · rw [q]; exact k.kb
      rcases List.mem_cons.mp hn with q | hn
      · rw [q]; exact k.ks
      rcases List.mem_cons.mp hn with q | hn
      · rw [q]; exact k.kt
      rcases List.mem_cons.mp hn with q | hn
      · rw [q]; exact k.kl
      rcases List.mem_cons.mp hn with q | hn
      · rw [q]; exact k.kd
      · cases hn
  | ow ns hF hH hz r => exact ⟨_, .x <| .base (.lst hH), plain _ rfl⟩
  | ok ns hF hH hz hk r => exact ⟨_, .x <| .base (.dK hH), plain _ rfl⟩
  | ot ns hF hH hz hk r => exact ⟨_, .x <| .base (.dT hH), plain _ rfl⟩
theorem dm_isi (n : String) (hn : n ∈ tys6) (hg : GI c "isinstance") (hm : c.mg "isinstance" = none) (hg2 : GI c x) (hm2 : c.mg x = none) (hv2 : bootBuiltins x = some (.type n)) (ha : DN c a ρ enc m) (hs : NoStar a := by intro _ _; rfl) (hn2 : x ≠ "__name__" := by decide) (hd2 : (x == ("__debug__" : Str)) = false := by decide) :
    DM c (.Call (.Name "isinstance" p2) [a, .Name x p3] [] pos) ρ D.bl (m >>= fun v => pure (isB n (enc v))) := by
  obtain ⟨t, h1, h2⟩ := ha
  refine ⟨tCB (rIsiZ c.K.K) (tCons t (tCons (tC (.ty n)) tNil)), fun X I => ?_, fun aS B s F H σ R Q q => h2 aS B s F H σ R _ (q.bind.imp fun z s1 q1 v F1 H1 f hs1 r => ?_)⟩
  · rw [← I.K]
    exact pe_callB call_isiZ (gl_of I hg) (by rw [I.mg]; exact hm) (by decide +kernel) (pa_cons (h1 X I) (pa_cons (pe_bltn (gl_of I hg2) (by rw [I.mg]; exact hm2) hv2 rfl hn2 hd2) pa_nil) (hs _ _)) (by decide) (by decide) (hs _ _) rfl
  · obtain ⟨ty, h3, h4⟩ := tyX_of c.g f.fh r
    exact ⟨v, .ty n, ty, .type n, isB n (enc z), rfl, .ty n, h3, h4 n hn, q1 _ F1 H1 f hs1 (.bl _)⟩
/-- an own class C, that a class of the name n is (or is within) just if sub n -/
structure IsC (g : Gx) (C : Addr) (sub : Str → Bool) : Prop where
  ty : ∀ a ∈ "NoneType" :: tys6, PySem.W.kitOne g.K.K (.type a) (.ref C) = some false
  ow : ∀ n C', g.K.cm n = some C' → PySem.W.kitOne g.K.K (.ref C') (.ref C) = some (sub n)
def isO (sub : Str → Bool) : D → Bool
  | .obj n _ => sub n
  | _ => false
theorem tyO_of {v : V} {C : Addr} {sub : Str → Bool} (g : Gx) (I : IsC g C sub) (e : Ex F H) (r : BRep aS g.K F H v d) : ∃ t, TyZ g.K.K H v t ∧ PySem.W.kitOne g.K.K t (.ref C) = some (isO sub d) := by
  cases r with
  | of r =>
    cases r with
    | non => exact ⟨_, .x <| .base .non, I.ty _ (by decide)⟩
    | bl b => exact ⟨_, .x <| .base (.bl b), I.ty _ (by decide)⟩
    | int i => exact ⟨_, .x <| .base (.int i), I.ty _ (by decide)⟩
    | str x => exact ⟨_, .x <| .base (.str x), I.ty _ (by decide)⟩
    | lst h _ _ _ => exact ⟨_, .x <| .base (.lst (e _ _ h)), I.ty _ (by decide)⟩
    | tup h _ _ _ => exact ⟨_, .x <| .base (.tup (e _ _ h)), I.ty _ (by decide)⟩
    | tpd h _ _ _ _ => exact ⟨_, .fT (e _ _ h), I.ty _ (by decide)⟩
    | dk h _ _ _ => exact ⟨_, .x <| .fDict (e _ _ h), I.ty _ (by decide)⟩
    | dt h _ _ _ => exact ⟨_, .fDT (e _ _ h), I.ty _ (by decide)⟩
    | @scr a vs l h _ _ _ =>
      rcases h with (h | ⟨o, h⟩) | ⟨o, its, k, h1, h2, _⟩
      · exact ⟨_, .x <| .base (.lst (e _ _ h)), I.ty _ (by decide)⟩
      · exact ⟨_, .x <| .base (.frz (e _ _ h)), I.ty _ (by decide)⟩
      · exact ⟨_, .x <| .kList h1 h2, I.ty _ (by decide)⟩
    | @obj nm x C dx gs fs hc h ho _ _ =>
      have k := g.cls _ _ hc
      exact ⟨_, .x <| .base (.ins (e _ _ h) k.cl k.ha k.hn k.ht k.hm), I.ow _ _ hc⟩
  | ow ns hF hH hz r => exact ⟨_, .x <| .base (.lst hH), I.ty _ (by decide)⟩
  | ok ns hF hH hz hk r => exact ⟨_, .x <| .base (.dK hH), I.ty _ (by decide)⟩
  | ot ns hF hH hz hk r => exact ⟨_, .x <| .base (.dT hH), I.ty _ (by decide)⟩
theorem dm_isO {C : Addr} {sub : Str → Bool} (IC : IsC c.g C sub) (hg : GI c "isinstance") (hm : c.mg "isinstance" = none) (hg2 : GI c x) (hm2 : c.mg x = some (.ref C)) (ha : DN c a ρ enc m) (hs : NoStar a := by intro _ _; rfl) (hd2 : (x == ("__debug__" : Str)) = false := by decide) :
    DM c (.Call (.Name "isinstance" p2) [a, .Name x p3] [] pos) ρ D.bl (m >>= fun v => pure (isO sub (enc v))) := by
  obtain ⟨t, h1, h2⟩ := ha
  refine ⟨tCB (rIsiZ c.K.K) (tCons t (tCons (tC (.ref C)) tNil)), fun X I => ?_, fun aS B s F H σ R Q q => h2 aS B s F H σ R _ (q.bind.imp fun z s1 q1 v F1 H1 f hs1 r => ?_)⟩
  · rw [← I.K]
    exact pe_callB call_isiZ (gl_of I hg) (by rw [I.mg]; exact hm) (by decide +kernel) (pa_cons (h1 X I) (pa_cons (pe_glob (gl_of I hg2) (by rw [I.mg]; exact hm2) (v := .ref C) rfl hd2) pa_nil) (hs _ _)) (by decide) (by decide) (hs _ _) rfl
  · obtain ⟨ty, h3, h4⟩ := tyO_of c.g IC f.fh r
    exact ⟨v, .ref C, ty, .ref C, isO sub (enc z), rfl, .own C, h3, h4, q1 _ F1 H1 f hs1 (.bl _)⟩
/-! ### built-ins of one argument, over what is drawn -/
theorem dm_call1B {id : String} {r : List V → Hp → VK → Prop} {eR : γ → D} {f : α → M γ} (hc : ∀ X, c.Is X → CallR X (.builtin id) r) (ho : ∀ (x : α) (s : List D) (P : γ → List D → Prop), Okk (f x s) P → ∃ g, P g s ∧ OpC c.K r [enc x] (eR g))
    (hg : GI c x) (hm : c.mg x = none) (hv : bootBuiltins x = some (.builtin id)) (ha : DN c a ρ enc m) (hs : NoStar a := by intro _ _; rfl) (hn : x ≠ "__name__" := by decide) (hdb : (x == ("__debug__" : Str)) = false := by decide) :
    DM c (.Call (.Name x p2) [a] [] pos) ρ eR (m >>= f) :=
  (dm_callB (eA := fun p : α × Unit => enc p.1 :: []) (f := fun p => f p.1) hc (fun p s P h => ho p.1 s P h) hg hm hv (dam_cons ha dam_nil hs) hn hdb hs).eq (by simp)
theorem dm_call1T {T : String} {r : List V → Hp → VK → Prop} {eR : γ → D} {f : α → M γ} (hc : ∀ X, c.Is X → CallR X (.type T) r) (ho : ∀ (x : α) (s : List D) (P : γ → List D → Prop), Okk (f x s) P → ∃ g, P g s ∧ OpC c.K r [enc x] (eR g))
    (hg : GI c x) (hm : c.mg x = none) (hv : bootBuiltins x = some (.type T)) (ha : DN c a ρ enc m) (hs : NoStar a := by intro _ _; rfl) (hn : x ≠ "__name__" := by decide) (hdb : (x == ("__debug__" : Str)) = false := by decide) :
    DM c (.Call (.Name x p2) [a] [] pos) ρ eR (m >>= f) :=
  (dm_callTy (eA := fun p : α × Unit => enc p.1 :: []) (f := fun p => f p.1) hc (fun p s P h => ho p.1 s P h) hg hm hv (dam_cons ha dam_nil hs) hn hdb hs).eq (by simp)
theorem okp {γ : Type} {g : γ} {s : List D} {P : γ → List D → Prop} {W : γ → Prop} (h : Okk ((pure g : M γ) s) P) (w : W g) : ∃ g, P g s ∧ W g := ⟨g, h, w⟩
theorem oc_sum {ns : List Int} : OpC K (L2.rSum K.K) [eL D.int ns] (.int ns.sum) := fun aS F H vs e r Q q => by
  obtain ⟨v, rfl, r1⟩ := arg1 r
  obtain ⟨a, ws, rfl, h1, hz, r2⟩ := r1.list e rfl
  rw [r2.ints] at h1
  exact ⟨a, ns, rfl, h1, rep_int e q⟩
theorem oc_any {bs : List Bool} : OpC K (L2.rAny K.K) [eL D.bl bs] (.bl (bs.any id)) := fun aS F H vs e r Q q => by
  obtain ⟨v, rfl, r1⟩ := arg1 r
  obtain ⟨a, ws, rfl, h1, hz, r2⟩ := r1.list e rfl
  rw [r2.bls] at h1
  exact ⟨a, bs, rfl, h1, rep_bl e q⟩
theorem oc_all {bs : List Bool} : OpC K (L2.rAll K.K) [eL D.bl bs] (.bl (bs.all id)) := fun aS F H vs e r Q q => by
  obtain ⟨v, rfl, r1⟩ := arg1 r
  obtain ⟨a, ws, rfl, h1, hz, r2⟩ := r1.list e rfl
  rw [r2.bls] at h1
  exact ⟨a, bs, rfl, h1, rep_bl e q⟩
theorem dm_sum [Cool c] {ml : M (List Int)} (hg : GI c "sum") (hm : c.mg "sum" = none) (ha : DN c a ρ (eL D.int) ml) (hs : NoStar a := by intro _ _; rfl) : DM c (.Call (.Name "sum" p2) [a] [] pos) ρ D.int (ml >>= fun l => pure l.sum) :=
  dm_call1B (r := L2.rSum c.K.K) (fun X I => by rw [← I.K]; exact cr_sum (I.calm Cool.h)) (fun x s P h => okp h oc_sum) hg hm (by decide +kernel) ha hs
theorem dm_any [Cool c] {ml : M (List Bool)} (hg : GI c "any") (hm : c.mg "any" = none) (ha : DN c a ρ (eL D.bl) ml) (hs : NoStar a := by intro _ _; rfl) : DM c (.Call (.Name "any" p2) [a] [] pos) ρ D.bl (ml >>= fun l => pure (l.any id)) :=
  dm_call1B (r := L2.rAny c.K.K) (fun X I => by rw [← I.K]; exact cr_any (I.calm Cool.h)) (fun x s P h => okp h oc_any) hg hm (by decide +kernel) ha hs
theorem dm_all [Cool c] {ml : M (List Bool)} (hg : GI c "all") (hm : c.mg "all" = none) (ha : DN c a ρ (eL D.bl) ml) (hs : NoStar a := by intro _ _; rfl) : DM c (.Call (.Name "all" p2) [a] [] pos) ρ D.bl (ml >>= fun l => pure (l.all id)) :=
  dm_call1B (r := L2.rAll c.K.K) (fun X I => by rw [← I.K]; exact cr_all (I.calm Cool.h)) (fun x s P h => okp h oc_all) hg hm (by decide +kernel) ha hs
theorem dm_toInt {mi : M Int} (hg : GI c "int") (hm : c.mg "int" = none) (ha : DN c a ρ D.int mi) (hs : NoStar a := by intro _ _; rfl) : DM c (.Call (.Name "int" p2) [a] [] pos) ρ D.int mi :=
  (dm_call1T (f := fun i => pure i) (fun X I => call_int1) (fun x s P h => okp h fun aS F H vs e r Q q => by
    obtain ⟨v, rfl, r1⟩ := arg1 r
    exact .inl ⟨x, by rw [r1.int_inv], rep_int e q⟩) hg hm (by decide +kernel) ha hs).eq (by simp)
theorem dm_toIntB {mi : M Bool} (hg : GI c "int") (hm : c.mg "int" = none) (ha : DN c a ρ D.bl mi) (hs : NoStar a := by intro _ _; rfl) : DM c (.Call (.Name "int" p2) [a] [] pos) ρ D.int (mi >>= fun b => pure (if b then 1 else 0)) :=
  dm_call1T (fun X I => call_int1) (fun x s P h => okp h fun aS F H vs e r Q q => by
    obtain ⟨v, rfl, r1⟩ := arg1 r
    exact .inr ⟨x, by rw [r1.bl_inv], rep_int e q⟩) hg hm (by decide +kernel) ha hs
theorem dm_abs {mi : M Int} (hg : GI c "abs") (hm : c.mg "abs" = none) (ha : DN c a ρ D.int mi) (hs : NoStar a := by intro _ _; rfl) : DM c (.Call (.Name "abs" p2) [a] [] pos) ρ D.int (mi >>= fun i => pure (if i < 0 then -i else i)) :=
  dm_call1B (fun X I => call_abs) (fun x s P h => okp h fun aS F H vs e r Q q => by
    obtain ⟨v, rfl, r1⟩ := arg1 r
    exact ⟨x, by rw [r1.int_inv], rep_int e q⟩) hg hm (by decide +kernel) ha hs
/-- len: of a list, a tuple of a type -/
theorem dm_lenL {ml : M (List α)} (hg : GI c "len") (hm : c.mg "len" = none) (ha : DN c a ρ (eL enc) ml) (hs : NoStar a := by intro _ _; rfl) : DM c (.Call (.Name "len" p2) [a] [] pos) ρ D.int (ml >>= fun l => pure (l.length : Int)) :=
  dm_call1B cl_len (fun x s P h => okp h (by have := oc_len (K := c.K) (d := eL enc x) rfl; rw [List.length_map] at this; exact this)) hg hm PySem.boot_len ha hs
theorem dm_lenT {ml : M (List α)} (hg : GI c "len") (hm : c.mg "len" = none) (ha : DN c a ρ (eT enc) ml) (hs : NoStar a := by intro _ _; rfl) : DM c (.Call (.Name "len" p2) [a] [] pos) ρ D.int (ml >>= fun l => pure (l.length : Int)) :=
  dm_call1B cl_len (fun x s P h => okp h (by have := oc_len (K := c.K) (d := eT enc x) rfl; rw [List.length_map] at this; exact this)) hg hm PySem.boot_len ha hs
/-- tuple(list), list(..) -/
theorem dm_tupL {ml : M (List α)} (hg : GI c "tuple") (hm : c.mg "tuple" = none) (ha : DN c a ρ (eL enc) ml) (hs : NoStar a := by intro _ _; rfl) : DM c (.Call (.Name "tuple" p2) [a] [] pos) ρ (eT enc) ml :=
  (dm_call1T (eR := eT enc) (f := fun l => pure l) cl_tup (fun x s P h => okp (W := fun g => OpC c.K (rTupOf c.K.K) [eL enc x] (eT enc g)) h (oc_tupL rfl)) hg hm (by decide +kernel) ha hs).eq (by simp)
/-! ### operators on ints, over what is drawn -/
abbrev opI (g : Int → Int → Int) (ma mb : M Int) : M Int := ma >>= fun i => mb >>= fun j => pure (g i j)
abbrev opB (g : Int → Int → Bool) (ma mb : M Int) : M Bool := ma >>= fun i => mb >>= fun j => pure (g i j)
/-- .. where C holds, else stuck -/
def grd (C : Prop) [Decidable C] (a : α) : M α := if C then pure a else stuck
theorem Okk.grd {C : Prop} [Decidable C] {y : α} {s : List D} {P : α → List D → Prop} (h : Okk (grd C y s) P) : C ∧ P y s := by
  unfold Dl.grd at h
  split at h
  · rename_i q
    exact ⟨q, h⟩
  · exact h.elim
section
variable {ma mb : M Int} {g : Int → Int → Int} {gb : Int → Int → Bool}
theorem dm_i0 {op : Operator} (ho : ∀ X : Cx, OpR X (binaryOp op) (rI0 fun i j => .int (g i j))) (ha : DM c a ρ D.int ma) (hb : DM c b ρ D.int mb) : DM c (.BinOp a op b pos) ρ D.int (opI g ma mb) :=
  dm_op (fun X _ => ho X) (fun i j s P h => okp h o2_int0) ha.toN hb.toN
theorem dm_iC {op : Operator} {C : Int → Int → Prop} [∀ i j, Decidable (C i j)] (ho : ∀ X : Cx, OpR X (binaryOp op) (rI C fun i j => .int (g i j))) (ha : DM c a ρ D.int ma) (hb : DM c b ρ D.int mb) : DM c (.BinOp a op b pos) ρ D.int (ma >>= fun i => mb >>= fun j => grd (C i j) (g i j)) :=
  dm_op (fun X _ => ho X) (fun i j s P h => by
    obtain ⟨h1, h2⟩ := h.grd
    exact ⟨_, h2, o2_int h1⟩) ha.toN hb.toN
instance (i j : Int) : Decidable (CMul i j) := by unfold CMul; exact inferInstance
instance (i j : Int) : Decidable (CDiv i j) := by unfold CDiv; exact inferInstance
instance (i j : Int) : Decidable (CPow i j) := by unfold CPow; exact inferInstance
theorem dm_add (ha : DM c a ρ D.int ma) (hb : DM c b ρ D.int mb) : DM c (.BinOp a .Add b pos) ρ D.int (opI (fun i j => i + j) ma mb) := dm_i0 (fun X => op_add) ha hb
theorem dm_sub (ha : DM c a ρ D.int ma) (hb : DM c b ρ D.int mb) : DM c (.BinOp a .Sub b pos) ρ D.int (opI (fun i j => i - j) ma mb) := dm_i0 (fun X => op_sub) ha hb
theorem dm_band (ha : DM c a ρ D.int ma) (hb : DM c b ρ D.int mb) : DM c (.BinOp a .BitAnd b pos) ρ D.int (opI Builtin.bitAnd ma mb) := dm_i0 (fun X => op_and) ha hb
theorem dm_bor (ha : DM c a ρ D.int ma) (hb : DM c b ρ D.int mb) : DM c (.BinOp a .BitOr b pos) ρ D.int (opI Builtin.bitOr ma mb) := dm_i0 (fun X => op_or) ha hb
theorem dm_bxor (ha : DM c a ρ D.int ma) (hb : DM c b ρ D.int mb) : DM c (.BinOp a .BitXor b pos) ρ D.int (opI Builtin.bitXor ma mb) := dm_i0 (fun X => op_xor) ha hb
def mMul (i j : Int) : M Int := grd (CMul i j) (i * j)
def mDiv (i j : Int) : M Int := grd (CDiv i j) (i / j)
def mMod (i j : Int) : M Int := grd (0 < j) (i % j)
def mPow (i j : Int) : M Int := grd (CPow i j) (i ^ j.toNat)
def mShl (i j : Int) : M Int := grd (CPow i j) (i * 2 ^ j.toNat)
def mShr (i j : Int) : M Int := grd (0 ≤ j) (i / 2 ^ j.toNat)
theorem dm_mul (ha : DM c a ρ D.int ma) (hb : DM c b ρ D.int mb) : DM c (.BinOp a .Mult b pos) ρ D.int (ma >>= fun i => mb >>= fun j => mMul i j) := dm_iC (C := CMul) (fun X => op_mul) ha hb
theorem dm_div (ha : DM c a ρ D.int ma) (hb : DM c b ρ D.int mb) : DM c (.BinOp a .FloorDiv b pos) ρ D.int (ma >>= fun i => mb >>= fun j => mDiv i j) := dm_iC (C := CDiv) (fun X => op_fdiv) ha hb
theorem dm_mod (ha : DM c a ρ D.int ma) (hb : DM c b ρ D.int mb) : DM c (.BinOp a .Mod b pos) ρ D.int (ma >>= fun i => mb >>= fun j => mMod i j) := dm_iC (C := fun _ j => 0 < j) (fun X => op_mod) ha hb
theorem dm_pow (ha : DM c a ρ D.int ma) (hb : DM c b ρ D.int mb) : DM c (.BinOp a .Pow b pos) ρ D.int (ma >>= fun i => mb >>= fun j => mPow i j) := dm_iC (C := CPow) (fun X => op_pow) ha hb
theorem dm_shl (ha : DM c a ρ D.int ma) (hb : DM c b ρ D.int mb) : DM c (.BinOp a .LShift b pos) ρ D.int (ma >>= fun i => mb >>= fun j => mShl i j) := dm_iC (C := CPow) (fun X => op_shl) ha hb
theorem dm_shr (ha : DM c a ρ D.int ma) (hb : DM c b ρ D.int mb) : DM c (.BinOp a .RShift b pos) ρ D.int (ma >>= fun i => mb >>= fun j => mShr i j) := dm_iC (C := fun _ j => 0 ≤ j) (fun X => op_shr) ha hb
theorem dm_neg (ha : DM c a ρ D.int ma) : DM c (.UnaryOp .USub a pos) ρ D.int (ma >>= fun i => pure (-i)) := by
  obtain ⟨t, h1, h2⟩ := ha
  exact ⟨_, fun X I => pe_un un_neg (h1 X I), fun aS B s F H σ R Q q => h2 aS B s F H σ R _ (q.bind.imp fun i s1 q1 v F1 H1 f hs r => ⟨i, r.int_inv, q1 _ F1 H1 f hs (.int _)⟩)⟩
/-- comparisons of ints: as values, as tests -/
theorem dm_cI {op : CmpOp} (ho : ∀ X : Cx, OpR X (compareOp op) (rI0 fun i j => .bl (gb i j))) (ha : DM c a ρ D.int ma) (hb : DM c b ρ D.int mb) (hm : behindInMarks op b = false) : DM c (.Compare a [op] [b] pos) ρ D.bl (opB gb ma mb) :=
  dm_cmp (fun X _ => ho X) (fun i j s P h => okp h o2_bl0) ha.toN hb.toN hm
theorem dt_cI {op : CmpOp} (ho : ∀ X : Cx, OpR X (compareOp op) (rI0 fun i j => .bl (gb i j))) (ha : DM c a ρ D.int ma) (hb : DM c b ρ D.int mb) (hm : behindInMarks op b = false) : DTM c (.Compare a [op] [b] pos) ρ (opB gb ma mb) :=
  dtm_cmp (fun X _ => ho X) (fun i j s P h => okp h o2_bl0) ha.toN hb.toN hm
abbrev bLt (i j : Int) : Bool := decide (i < j)
abbrev bLe (i j : Int) : Bool := decide (i ≤ j)
abbrev bGt (i j : Int) : Bool := decide (j < i)
abbrev bGe (i j : Int) : Bool := decide (j ≤ i)
theorem dm_lt (ha : DM c a ρ D.int ma) (hb : DM c b ρ D.int mb) : DM c (.Compare a [.Lt] [b] pos) ρ D.bl (opB bLt ma mb) := dm_cI (fun X => op_lt) ha hb (nomark _)
theorem dm_gt (ha : DM c a ρ D.int ma) (hb : DM c b ρ D.int mb) : DM c (.Compare a [.Gt] [b] pos) ρ D.bl (opB bGt ma mb) := dm_cI (fun X => op_gt) ha hb (nomark _)
theorem dt_lt (ha : DM c a ρ D.int ma) (hb : DM c b ρ D.int mb) : DTM c (.Compare a [.Lt] [b] pos) ρ (opB bLt ma mb) := dt_cI (fun X => op_lt) ha hb (nomark _)
theorem dt_gt (ha : DM c a ρ D.int ma) (hb : DM c b ρ D.int mb) : DTM c (.Compare a [.Gt] [b] pos) ρ (opB bGt ma mb) := dt_cI (fun X => op_gt) ha hb (nomark _)
theorem dt_ge (ha : DM c a ρ D.int ma) (hb : DM c b ρ D.int mb) : DTM c (.Compare a [.GtE] [b] pos) ρ (opB bGe ma mb) := dt_cI (fun X => op_ge) ha hb (nomark _)
end
/-! == and != of data of one encoding -/
section
variable [DecidableEq α] {k : Nat} {mx my : M α}
theorem dm_eq (E : Eqs enc k) (ha : DN c a ρ enc mx) (hb : DN c b ρ enc my) : DM c (.Compare a [.Eq] [b] pos) ρ D.bl (mx >>= fun x => my >>= fun y => pure (decide (x = y))) := dm_cmp (fun X I => op_eqI I) (fun x y s P h => okp h (o2_eq E x y)) ha hb (nomark _)
theorem dt_eq (E : Eqs enc k) (ha : DN c a ρ enc mx) (hb : DN c b ρ enc my) : DTM c (.Compare a [.Eq] [b] pos) ρ (mx >>= fun x => my >>= fun y => pure (decide (x = y))) := dtm_cmp (fun X I => op_eqI I) (fun x y s P h => okp h (o2_eq E x y)) ha hb (nomark _)
theorem dt_ne (E : Eqs enc k) (ha : DN c a ρ enc mx) (hb : DN c b ρ enc my) : DTM c (.Compare a [.NotEq] [b] pos) ρ (mx >>= fun x => my >>= fun y => pure (!decide (x = y))) := dtm_cmp (fun X I => op_neI I) (fun x y s P h => okp h (o2_ne E x y)) ha hb (nomark _)
end
end
end Dl

/-! Dl, part I: casts, chains, displays, subscripts, slices, order, membership, fields; statements on lists of one's own. -/
namespace Dl
open PySem PySem.Spec PyProof.Rows L2
open Evl (Ex)

/-- the built-in names' values -/
theorem b_int : bootBuiltins "int" = some (.type "int") := by decide +kernel
theorem b_bool : bootBuiltins "bool" = some (.type "bool") := by decide +kernel
theorem b_tuple : bootBuiltins "tuple" = some (.type "tuple") := by decide +kernel
/-! ### arguments of displays, one behind another -/
def EvKc {A : Type} (K : Kx) (ta : TA) (ρ : List Sl) (enc : A → List D) (m : ∀ {γ : Type}, (A → M γ) → M γ) : Prop := ∀ (aS : Option Addr) (B : Bs) (s : List D) (F H : Hp) (σ : L2.St), REnv aS K B s F H σ ρ → ∀ (Q : List V → Hp → Prop) (γ : Type) (k : A → M γ) (P : γ → List D → Prop),
  Okk (m k s) P → (∀ a s' vs F' H', Okk (k a s') P → Fr aS F H F' H' → SrcAt aS K s' F' H' → Reps K F' vs (enc a) → Q vs H') → ta σ H Q
def DKc {A : Type} (c : Ct) (ρ : List Sl) (es : List Expr) (enc : A → List D) (m : ∀ {γ : Type}, (A → M γ) → M γ) : Prop := ∃ t, (∀ X, c.Is X → PA X es t) ∧ EvKc c.K t ρ enc m
abbrev kN : Unit → List D := fun _ => []
abbrev kC {α β : Type} (e : α → D) (r : β → List D) : α × β → List D := fun p => e p.1 :: r p.2
section
variable {c : Ct} {e a b : Expr} {es : List Expr} {sts rest : List Stmt} {ρ ρ1 : List Sl} {d d1 d2 : D} {ds l : List D} {α β γ δ A R : Type} {enc : α → D} {eb : β → D} {m : M α} {pos p2 p3 p4 p5 p6 : Pos} {x y : Str} {aS : Option Addr} {K : Kx} {F F' H H' : Hp} {s : List D} {σ : L2.St} {B : Bs} {out : γ → Oc}
theorem kc_nil : DKc c ρ [] kN (fun k => k ()) := ⟨_, fun X I => pa_nil, fun aS B s F H σ R Q γ k P h q => q () s [] F H h (Fr.refl R.ex) R.src .nil⟩
theorem kc_cons {r : A → List D} {mr : ∀ {γ : Type}, (A → M γ) → M γ} (h : DM c e ρ enc m) (hr : DKc c ρ es r mr) (hs : NoStar e := by intro _ _; rfl) : DKc c ρ (e :: es) (kC enc r) (fun k => m >>= fun a => mr fun b => k (a, b)) := by
  obtain ⟨t, h1, h2⟩ := h
  obtain ⟨u, h3, h4⟩ := hr
  refine ⟨_, fun X I => pa_cons (h1 X I) (h3 X I) (hs _ _), fun aS B s F H σ R Q γ k P hk q => h2 aS B s F H σ R _ (hk.bind.imp fun a s1 k1 v F1 H1 f1 hs1 r1 => h4 aS B s1 F1 H1 σ (R.step f1 hs1) _ γ _ P k1 fun b s2 vs F2 H2 k2 f2 hs2 r2 => q (a, b) s2 (v :: vs) F2 H2 k2 (f1.trans f2) hs2 (.cons (r1.mono f2.ff) r2))⟩
/-- (a, b, ..), told as something of a type -/
theorem dm_tupc {k} {eA : A → List D} {mk : ∀ {γ : Type}, (A → M γ) → M γ} {eR : δ → D} (g : A → δ) (h : DKc c ρ es eA mk) (hg : ∀ a, eR (g a) = .tup (eA a) := by intro _; rfl) (hz : ∀ a, (eA a).length ≤ LIM := by intro _; exact Nat.le_of_ble_eq_true rfl) : DM c (.Tuple es k pos) ρ eR (mk fun a => pure (g a)) := by
  obtain ⟨t, h1, h2⟩ := h
  exact ⟨_, fun X I => pe_tup (h1 X I), fun aS B s F H σ R Q q => h2 aS B s F H σ R _ _ _ _ q fun a s1 vs F1 H1 k f hs r => ⟨by rw [r.length]; exact lim_line (hz a), fun p hp => by
    have k : ∀ v F' H', Fr aS F H F' H' → SrcAt aS c.K s1 F' H' → Rep c.K F' v (eR (g a)) → Q v H' := k
    exact k _ (upd F1 p (.tup vs)) _ (f.trans (Fp.new f.fh hp).fr) (hs.stepP (Fp.new f.fh hp)) (by rw [hg]; exact Rep.mk_tup upd_same (hz a) (r.mono (Ex.new (Ex.none_of f.fh hp))))⟩⟩
/-! ### data of any kind, taken as of a type; of a type, taken as any -/
theorem dm_as {md : M D} (dec : D → Option α) (h : ∀ d x, dec d = some x → d = enc x) (hd : DM c e ρ eId md) : DM c e ρ enc (md >>= fun d => ofO (dec d)) := by
  obtain ⟨t, h1, h2⟩ := hd
  refine ⟨t, h1, fun aS B s F H σ R Q q => h2 aS B s F H σ R Q (q.bind.imp fun d s1 q1 v F1 H1 f hs r => ?_)⟩
  obtain ⟨z, e1, q2⟩ := q1.ofO
  have e2 := h d z e1
  exact q2 v F1 H1 f hs (by rw [← e2]; exact r)
theorem dm_up (h : DM c e ρ enc m) : DM c e ρ eId (m >>= fun z => pure (enc z)) := by
  obtain ⟨t, h1, h2⟩ := h
  exact ⟨t, h1, fun aS B s F H σ R Q q => h2 aS B s F H σ R Q (q.bind.imp fun d s1 q1 v F1 H1 f hs r => q1 v F1 H1 f hs r)⟩
/-- .. of a type, taken as another one -/
theorem dm_cast {e2 : β → D} (g : α → β) (hg : ∀ z, enc z = e2 (g z)) (h : DM c e ρ enc m) : DM c e ρ e2 (m >>= fun z => pure (g z)) := by
  obtain ⟨t, h1, h2⟩ := h
  exact ⟨t, h1, fun aS B s F H σ R Q q => h2 aS B s F H σ R Q (q.bind.imp fun z s1 q1 v F1 H1 f hs r => q1 v F1 H1 f hs (by rw [← hg]; exact r))⟩
def deI : D → Option Int
  | .int i => some i
  | _ => none
def deAll {α : Type} (f : D → Option α) : List D → Option (List α)
  | [] => some []
  | d :: l => match f d, deAll f l with
    | some x, some xs => some (x :: xs)
    | _, _ => none
def deT {α : Type} (f : D → Option α) : D → Option (List α)
  | .tup l => deAll f l
  | _ => none
def deL {α : Type} (f : D → Option α) : D → Option (List α)
  | .lst l => deAll f l
  | _ => none
theorem deI_ok (d : D) (x : Int) (h : deI d = some x) : d = .int x := by
  cases d <;> first | (cases h; rfl) | cases h
theorem deAll_ok {f : D → Option α} (hf : ∀ d x, f d = some x → d = enc x) : ∀ (l : List D) (xs : List α), deAll f l = some xs → l = xs.map enc
  | [], xs, h => by cases h; rfl
  | d :: l, xs, h => by
    unfold deAll at h
    split at h
    · rename_i x ys h1 h2
      cases h
      rw [List.map_cons, ← hf d x h1, ← deAll_ok hf l ys h2]
    · cases h
theorem deT_ok {f : D → Option α} (hf : ∀ d x, f d = some x → d = enc x) (d : D) (xs : List α) (h : deT f d = some xs) : d = eT enc xs := by
  cases d <;> first | exact congrArg D.tup (deAll_ok hf _ _ h) | cases h
theorem deL_ok {f : D → Option α} (hf : ∀ d x, f d = some x → d = enc x) (d : D) (xs : List α) (h : deL f d = some xs) : d = eL enc xs := by
  cases d <;> first | exact congrArg D.lst (deAll_ok hf _ _ h) | cases h

/-! ### a <= b <= c -/
def mChain (g g' : Int → Int → Bool) (ma mb mc : M Int) : M Bool := ma >>= fun i => mb >>= fun j => if g i j then mc >>= fun k => pure (g' j k) else pure false
theorem evm_chain {ta tb tc : TE} {g g' : Int → Int → Bool} {ma mb mc : M Int} (h2 : EvM K ta ρ D.int ma) (h4 : EvM K tb ρ D.int mb) (h6 : EvM K tc ρ D.int mc) : EvM K (tChain (rI0 fun i j => .bl (g i j)) (rI0 fun i j => .bl (g' i j)) ta tb tc) ρ D.bl (mChain g g' ma mb mc) := fun aS B s F H σ R Q q =>
  h2 aS B s F H σ R _ (q.bind.imp fun i s1 q1 v F1 H1 f1 hs1 r1 => h4 aS B s1 F1 H1 σ (R.step f1 hs1) _ (q1.bind.imp fun j s2 q2 v2 F2 H2 f2 hs2 r2 => ⟨i, j, r1.int_inv, r2.int_inv, g i j, rfl, by
    cases hg : g i j with
    | true =>
      rw [hg] at q2
      exact h6 aS B s2 F2 H2 σ ((R.step f1 hs1).step f2 hs2) _ (Okk.imp (Okk.bind q2) fun k s3 q3 v3 F3 H3 f3 hs3 r3 => ⟨j, k, r2.int_inv, r3.int_inv, q3 _ F3 H3 ((f1.trans f2).trans f3) hs3 (.bl _)⟩)
    | false =>
      rw [hg] at q2
      exact q2 _ F2 H2 (f1.trans f2) hs2 (.bl false)⟩))
theorem dm_chain {op op' : CmpOp} {b' : Expr} {g g' : Int → Int → Bool} {ma mb mc : M Int} (ho : ∀ X : Cx, OpR X (compareOp op) (rI0 fun i j => .bl (g i j))) (ho' : ∀ X : Cx, OpR X (compareOp op') (rI0 fun i j => .bl (g' i j)))
    (ha : DM c a ρ D.int ma) (hb : DM c b ρ D.int mb) (hc : DM c b' ρ D.int mc) (hm : lastMarks [op, op'] [b, b'] = false := by with_unfolding_all rfl) : DM c (.Compare a [op, op'] [b, b'] pos) ρ D.bl (mChain g g' ma mb mc) := by
  obtain ⟨t, h1, h2⟩ := ha
  obtain ⟨u, h3, h4⟩ := hb
  obtain ⟨w, h5, h6⟩ := hc
  exact ⟨_, fun X I => pe_chain (ho X) (ho' X) (h1 X I) (h3 X I) (h5 X I) hm, evm_chain h2 h4 h6⟩
/-! ### order and membership -/
/-- Python's < of tuples of ints -/
theorem o2_ltT {ns ms : List Int} : Op2 K (rLtT K.K) (eT D.int ns) (eT D.int ms) (.bl (HT.lexLt ns ms)) := fun aS F H v w e r1 r2 Q q => by
  obtain ⟨p, vs, rfl, h1, hz, ra⟩ := r1.tupl e
  obtain ⟨p', ws, rfl, h2, hz', rb⟩ := r2.tupl e
  rw [ra.ints] at h1
  rw [rb.ints] at h2
  exact ⟨p, p', ns, ms, rfl, rfl, h1, h2, rep_bl e q⟩
theorem op_ltI {X : Cx} (I : c.Is X) : OpR X (compareOp .Lt) (rLtT c.K.K) := by
  rw [← I.K]
  exact op_ltT I.room.units0
theorem dt_ltT {ma mb : M (List Int)} (ha : DN c a ρ (eT D.int) ma) (hb : DN c b ρ (eT D.int) mb) : DTM c (.Compare a [.Lt] [b] pos) ρ (ma >>= fun x => mb >>= fun y => pure (HT.lexLt x y)) := dtm_cmp (fun X I => op_ltI I) (fun x y s P h => okp h o2_ltT) ha hb (nomark _)
/-- x in xs, at any depth -/
def rInS (K : PySem.W.Frag) (neg : Bool) : R2 := fun x y H Q => ∃ d ds, Dp K H x d ∧ (Dp K H y (.list ds) ∨ Dp K H y (.tuple ds)) ∧ SeqAt.shaped d = true ∧ SeqAt.shaped (.list ds) = true ∧ Q (.bl (if neg then !(ds.any fun z => PyData.eqv z d) else ds.any fun z => PyData.eqv z d)) H
theorem room_in_sh {A : Around} {d : PyData} {ds : List PyData} (sd : SeqAt.shaped d = true) (hu : A.units + 65 < cLine) : A.units + 1 + min (PyData.depthAll ds) d.depth < cLine := by
  have h1 := SeqAt.depth_of_shaped sd
  have h2 : min (PyData.depthAll ds) d.depth ≤ d.depth := Nat.min_le_right _ _
  omega
theorem op_inS {X : Cx} (hu : X.A.units + 65 < cLine) : OpR X (compareOp .In) (rInS X.K false) := by
  intro pins s σ H x y v u Q I rx ry h
  obtain ⟨d, ds, hd, he, sd, se, q⟩ := h
  obtain ⟨as, r1⟩ := Dp.reads I d x v hd rx
  rcases he with he | he
  · obtain ⟨bs, r2⟩ := Dp.reads I (.list ds) y u he ry
    exact SeqAt.in_list_reads r2 r1 (SeqAt.canLay_of_shaped se) (SeqAt.canLay_of_shaped sd) (room_in_sh sd hu) ⟨.bl _, H, I, rfl, q⟩
  · obtain ⟨bs, r2⟩ := Dp.reads I (.tuple ds) y u he ry
    exact SeqAt.in_tuple_reads r2 r1 (SeqAt.canLay_of_shaped se) (SeqAt.canLay_of_shaped sd) (room_in_sh sd hu) ⟨.bl _, H, I, rfl, q⟩
theorem any_eqs [DecidableEq α] {k : Nat} (E : Eqs enc k) (x : α) : ∀ l : List α, (pys (l.map enc)).any (fun z => PyData.eqv z (py (enc x))) = decide (x ∈ l)
  | [] => by rw [List.map_nil, pys]; simp
  | y :: l => by
    rw [List.map_cons, pys, List.any_cons, any_eqs E x l, E.eq]
    by_cases h : y = x
    · subst h; simp
    · rw [decide_eq_false h, Bool.false_or]
      have : (x ∈ y :: l) ↔ x ∈ l := by
        rw [List.mem_cons]
        exact ⟨fun z => z.resolve_left (fun q => h q.symm), .inr⟩
      exact decide_eq_decide.mpr this.symm
theorem units65 {X : Cx} (I : c.Is X) : X.A.units + 65 < cLine := by
  have := I.room.un
  omega
theorem o2_in [DecidableEq α] {k : Nat} (E : Eqs enc k) (hk : k < 60) {neg : Bool} {z : α} {xs : List α} {sq : D} (hs : seqD sq = some (xs.map enc)) (hn : ∀ l, sq ≠ .scr l) : Op2 K (rInS K.K neg) (enc z) sq (.bl (if neg then !decide (z ∈ xs) else decide (z ∈ xs))) := fun aS F H v w e r1 r2 Q q => by
  have hsh : SeqAt.shaped (.list (pys (xs.map enc))) = true := by
    have q := (Eqs.lst E hk).sh xs
    show SeqAt.shaped (PyData.list (pys (xs.map enc))) = true
    have e2 : py (eL enc xs) = .list (pys (xs.map enc)) := by
      show py (.lst (xs.map enc)) = _
      rw [py]
    rw [← e2]
    exact q
  have hlay : PyData.canLayAll0 (pys (xs.map enc)) = true := (E.all xs).1
  refine ⟨_, pys (xs.map enc), r1.dp e (E.lay z), ?_, E.sh z, hsh, ?_⟩
  · cases sq <;> first | cases hs | skip
    · left
      have := r2.dp e (by rw [py, PyData.canLay0]; exact hlay)
      rw [py] at this
      exact this
    · right
      have := r2.dp e (by rw [py, PyData.canLay0]; exact hlay)
      rw [py] at this
      exact this
    · right
      have := r2.dp e (by rw [py, PyData.canLay0]; exact hlay)
      rw [py] at this
      exact this
    · exact absurd rfl (hn _)
  · rw [any_eqs E]
    exact rep_bl e q
end
end Dl

/-! Dl, part J: membership, slices, joins, fields; statements on lists of one's own. -/
namespace Dl
open PySem PySem.Spec PyProof.Rows L2
open Evl (Ex)
section
variable {c : Ct} {e a b : Expr} {es : List Expr} {sts rest : List Stmt} {ρ ρ1 : List Sl} {d d1 d2 : D} {ds l : List D} {α β γ δ A R : Type} {enc : α → D} {eb : β → D} {m : M α} {pos p2 p3 p4 p5 p6 : Pos} {x y : Str} {aS : Option Addr} {K : Kx} {F F' H H' : Hp} {s : List D} {σ : L2.St} {B : Bs} {out : γ → Oc}
theorem op_inI {X : Cx} (I : c.Is X) : OpR X (compareOp .In) (rInS c.K.K false) := by
  rw [← I.K]
  exact op_inS (units65 I)
section
variable [DecidableEq α] {k : Nat} {mx : M α} {ms : M (List α)}
theorem dm_inT (E : Eqs enc k) (hk : k < 60) (ha : DN c a ρ enc mx) (hb : DN c b ρ (eT enc) ms) (hm : behindInMarks .In b = false := by rfl) : DM c (.Compare a [.In] [b] pos) ρ D.bl (mx >>= fun x => ms >>= fun xs => pure (decide (x ∈ xs))) := dm_cmp (fun X I => op_inI I) (fun x xs s P h => okp h (o2_in E hk rfl (fun _ z => by cases z) (neg := false))) ha hb hm
end

/-! ### slices -/
def EvPt (K : Kx) (to : TO) (ρ : List Sl) (m : M (Option Int)) : Prop := ∀ (aS : Option Addr) (B : Bs) (s : List D) (F H : Hp) (σ : L2.St), REnv aS K B s F H σ ρ → ∀ Q : Option Int → Hp → Prop, Okk (m s) (fun o s' => ∀ F' H', Fr aS F H F' H' → SrcAt aS K s' F' H' → Q o H') → to σ H Q
def DPt (c : Ct) (e : Option Expr) (ρ : List Sl) (m : M (Option Int)) : Prop := ∃ t, (∀ X, c.Is X → PO X e t) ∧ EvPt c.K t ρ m
theorem pt_none : DPt c none ρ (pure none) := ⟨_, fun X I => po_none, fun aS B s F H σ R Q q => q F H (Fr.refl R.ex) R.src⟩
theorem pt_some {mi : M Int} (h : DM c e ρ D.int mi) : DPt c (some e) ρ (mi >>= fun i => pure (some i)) := by
  obtain ⟨t, h1, h2⟩ := h
  exact ⟨_, fun X I => po_some (h1 X I), fun aS B s F H σ R Q q => h2 aS B s F H σ R _ (q.bind.imp fun i s1 q1 v F1 H1 f hs r => ⟨i, r.int_inv, q1 F1 H1 f hs⟩)⟩
theorem Paired.drop' {α β : Type} {G : α → β → Prop} : ∀ {l : List α} {m : List β} (n : Nat), Paired G l m → Paired G (l.drop n) (m.drop n)
  | _, _, 0, r => r
  | _, _, _ + 1, .nil => .nil
  | _, _, n + 1, .cons _ t => Paired.drop' n t
theorem Paired.take' {α β : Type} {G : α → β → Prop} : ∀ {l : List α} {m : List β} (n : Nat), Paired G l m → Paired G (l.take n) (m.take n)
  | _, _, 0, _ => .nil
  | _, _, _ + 1, .nil => .nil
  | _, _, n + 1, .cons r t => .cons r (Paired.take' n t)
theorem Reps.cut {vs : List V} (r : Reps K F vs l) (lo hi : Option Int) : Reps K F (cutV vs lo hi) (cutL l lo hi) := by
  have hl := r.length
  show Paired _ (cutV vs lo hi) (cutL l lo hi)
  unfold cutV cutL
  rw [hl]
  exact Paired.take' _ (Paired.drop' _ r)
theorem cut_le (l : List D) (lo hi : Option Int) (h : l.length ≤ LIM) : (cutL l lo hi).length ≤ LIM := Nat.le_trans (cutL_length l lo hi) h
theorem cut_whole {xs : List V} {lo hi : Option Int} (h : HT.sIx xs.length 0 lo = 0 ∧ HT.sIx xs.length xs.length hi = xs.length) : cutV xs lo hi = xs := by
  unfold cutV
  rw [h.1, h.2]
  simp
theorem do_sliceS {lo hi : Option Expr} {mx : M (List α)} {ml mh : M (Option Int)} (hx : DM c a ρ (fun l => .scr (l.map enc)) mx) (h1 : DPt c lo ρ ml) (h2 : DPt c hi ρ mh) : DO c (.Subscript a (.Slice lo hi none p2) pos) ρ (fun l => l.map enc) (mx >>= fun xs => ml >>= fun l => mh >>= fun h => pure (cutL xs l h)) := by
  obtain ⟨t, a1, a2⟩ := hx
  obtain ⟨u, b1, b2⟩ := h1
  obtain ⟨w, c1, c2⟩ := h2
  refine ⟨tSl (rSlL c.K.K) t u w, fun X I => by rw [← I.K]; exact pe_slice sl_list (a1 X I) (b1 X I) (c1 X I), fun aS B s F H σ R Q q => a2 aS B s F H σ R _ (q.bind.imp fun xs s1 q1 v F1 H1 f1 hs1 r1 => b2 aS B s1 F1 H1 σ (R.step f1 hs1) _ (q1.bind.imp fun lo s2 q2 F2 H2 f2 hs2 => c2 aS B s2 F2 H2 σ ((R.step f1 hs1).step f2 hs2) _ (q2.bind.imp fun hi s3 q3 F3 H3 f3 hs3 => ?_)))⟩
  obtain ⟨p, vs, rfl, hp, hz, rs⟩ := ((r1.mono f2.ff).mono f3.ff).of_scr
  have hp := Evl.ex_l f3.fh hp
  have R3 := ((R.step f1 hs1).step f2 hs2).step f3 hs3
  refine ⟨p, vs, rfl, hp, fun n hn => ?_⟩
  have ns := R3.notSrc hn
  have fall := (f1.trans f2).trans f3
  have q4 : ∀ p vs F' H', Fr aS F H F' H' → SrcAt aS c.K s3 F' H' → H p = none → aS ≠ some p → F' p = none → H' p = some (.lst vs) → ((cutL xs lo hi).map enc).length ≤ LIM → Reps c.K F' vs ((cutL xs lo hi).map enc) → Q (.ref p) H' := q3
  rw [← cutL_map] at q4
  exact q4 n _ F3 _ (fall.trans (Fp.own f3.fh hn).fr) (hs3.stepP (Fp.own f3.fh hn)) (fall.none_of ns hn) ns (Ex.none_of f3.fh hn) upd_same (cut_le _ _ _ hz) (rs.cut lo hi)
theorem dm_sliceT {lo hi : Option Expr} {mx : M (List α)} {ml mh : M (Option Int)} (hx : DM c a ρ (eT enc) mx) (h1 : DPt c lo ρ ml) (h2 : DPt c hi ρ mh) : DM c (.Subscript a (.Slice lo hi none p2) pos) ρ (eT enc) (mx >>= fun xs => ml >>= fun l => mh >>= fun h => pure (cutL xs l h)) := by
  obtain ⟨t, a1, a2⟩ := hx
  obtain ⟨u, b1, b2⟩ := h1
  obtain ⟨w, c1, c2⟩ := h2
  refine ⟨tSl (rSlA c.K.K) t u w, fun X I => by rw [← I.K]; exact pe_slice sl_tupA (a1 X I) (b1 X I) (c1 X I), fun aS B s F H σ R Q q => a2 aS B s F H σ R _ (q.bind.imp fun xs s1 q1 v F1 H1 f1 hs1 r1 => b2 aS B s1 F1 H1 σ (R.step f1 hs1) _ (q1.bind.imp fun lo s2 q2 F2 H2 f2 hs2 => c2 aS B s2 F2 H2 σ ((R.step f1 hs1).step f2 hs2) _ (q2.bind.imp fun hi s3 q3 F3 H3 f3 hs3 => ?_)))⟩
  obtain ⟨p, vs, rfl, hp, hz, rs⟩ := ((r1.mono f2.ff).mono f3.ff).of_tup
  have fall := (f1.trans f2).trans f3
  have q4 : ∀ v F' H', Fr aS F H F' H' → SrcAt aS c.K s3 F' H' → Rep c.K F' v (.tup ((cutL xs lo hi).map enc)) → Q v H' := q3
  rw [← cutL_map] at q4
  have rc := rs.cut lo hi
  refine ⟨p, vs, rfl, SqT.of (f3.fh _ _ hp), fun hw => ?_, fun hw n hn => ?_⟩
  · rw [cut_whole hw] at rc
    exact q4 _ F3 H3 fall hs3 (Rep.mk_tup hp (cut_le _ _ _ hz) rc)
  · exact q4 _ (upd F3 n _) _ (fall.trans (Fp.new f3.fh hn).fr) (hs3.stepP (Fp.new f3.fh hn)) (Rep.mk_tup upd_same (cut_le _ _ _ hz) (rc.mono (Ex.new (Ex.none_of f3.fh hn))))

/-! ### + of tuples, of lists -/
theorem dm_catT {ma mb : M (List α)} (ha : DM c a ρ (eT enc) ma) (hb : DM c b ρ (eT enc) mb) : DM c (.BinOp a .Add b pos) ρ (eT enc) (ma >>= fun x => mb >>= fun y => chk (x.length + y.length) >>= fun _ => pure (x ++ y)) := by
  obtain ⟨t, a1, a2⟩ := ha
  obtain ⟨u, b1, b2⟩ := hb
  refine ⟨tOp (rCatA c.K.K) t u, fun X I => by rw [← I.K]; exact pe_op op_catA (a1 X I) (b1 X I), fun aS B s F H σ R Q q => a2 aS B s F H σ R _ (q.bind.imp fun xs s1 q1 v F1 H1 f1 hs1 r1 => b2 aS B s1 F1 H1 σ (R.step f1 hs1) _ (q1.bind.imp fun ys s2 q2 w F2 H2 f2 hs2 r2 => ?_))⟩
  obtain ⟨hc, q3⟩ := q2.chk
  have q4 : ∀ v F' H', Fr aS F H F' H' → SrcAt aS c.K s2 F' H' → Rep c.K F' v (.tup ((xs ++ ys).map enc)) → Q v H' := q3
  rw [List.map_append] at q4
  obtain ⟨p, vs, rfl, hp, hz, rs⟩ := (r1.mono f2.ff).of_tup
  obtain ⟨p', ws, rfl, hp', hz', rs'⟩ := r2.of_tup
  have hl : vs.length + ws.length ≤ LIM := by rw [rs.length, rs'.length, List.length_map, List.length_map]; exact hc
  have hl2 : (xs.map enc ++ ys.map enc).length ≤ LIM := by rw [List.length_append, List.length_map, List.length_map]; exact hc
  have fall := f1.trans f2
  refine ⟨p, p', vs, ws, rfl, rfl, SqT.of (f2.fh _ _ hp), SqT.of (f2.fh _ _ hp'), lim_line hl, fun h0 => ?_, fun _ h0 => ?_, fun _ _ n hn => ?_⟩
  · have hx : xs.map enc = [] := List.eq_nil_of_length_eq_zero (by rw [← rs.length, h0]; rfl)
    rw [hx, List.nil_append] at q4
    exact q4 _ F2 H2 fall hs2 r2
  · have hy : ys.map enc = [] := List.eq_nil_of_length_eq_zero (by rw [← rs'.length, h0]; rfl)
    rw [hy, List.append_nil] at q4
    exact q4 _ F2 H2 fall hs2 (r1.mono f2.ff)
  · exact q4 _ (upd F2 n _) _ (fall.trans (Fp.new f2.fh hn).fr) (hs2.stepP (Fp.new f2.fh hn)) (Rep.mk_tup upd_same hl2 ((rs.append rs').mono (Ex.new (Ex.none_of f2.fh hn))))
theorem do_catL {ma mb : M (List α)} (ha : DN c a ρ (eL enc) ma) (hb : DN c b ρ (eL enc) mb) : DO c (.BinOp a .Add b pos) ρ (fun l => l.map enc) (ma >>= fun x => mb >>= fun y => chk (x.length + y.length) >>= fun _ => pure (x ++ y)) := by
  obtain ⟨t, a1, a2⟩ := ha
  obtain ⟨u, b1, b2⟩ := hb
  refine ⟨_, fun X I => pe_op op_cat (a1 X I) (b1 X I), fun aS B s F H σ R Q q => a2 aS B s F H σ R _ (q.bind.imp fun xs s1 q1 v F1 H1 f1 hs1 r1 => b2 aS B s1 F1 H1 σ (R.step f1 hs1) _ (q1.bind.imp fun ys s2 q2 w F2 H2 f2 hs2 r2 => ?_))⟩
  obtain ⟨hc, q3⟩ := q2.chk
  have q4 : ∀ p vs F' H', Fr aS F H F' H' → SrcAt aS c.K s2 F' H' → H p = none → aS ≠ some p → F' p = none → H' p = some (.lst vs) → ((xs ++ ys).map enc).length ≤ LIM → Reps c.K F' vs ((xs ++ ys).map enc) → Q (.ref p) H' := q3
  rw [List.map_append] at q4
  obtain ⟨p, vs, rfl, hp, hz, rs⟩ := (r1.step f2).of_lst f2.fh
  obtain ⟨p', ws, rfl, hp', hz', rs'⟩ := r2.of_lst f2.fh
  have hl : vs.length + ws.length ≤ LIM := by rw [rs.length, rs'.length, List.length_map, List.length_map]; exact hc
  have hl2 : (xs.map enc ++ ys.map enc).length ≤ LIM := by rw [List.length_append, List.length_map, List.length_map]; exact hc
  have fall := f1.trans f2
  have R2 := (R.step f1 hs1).step f2 hs2
  refine ⟨p, p', vs, ws, rfl, rfl, hp, hp', lim_line hl, fun n hn => ?_⟩
  have ns := R2.notSrc hn
  exact q4 n _ F2 _ (fall.trans (Fp.own f2.fh hn).fr) (hs2.stepP (Fp.own f2.fh hn)) (fall.none_of ns hn) ns (Ex.none_of f2.fh hn) upd_same hl2 (rs.append rs')

/-! ### fields -/
theorem obj_inv {v : V} {n : Str} {fs : List (Str × D)} (r : Rep K F v (.obj n fs)) : ∃ p C dx gs, v = .ref p ∧ K.cm n = some C ∧ F p = some (.ins C dx gs) ∧ gs.map (·.1) = fs.map (·.1) ∧ ∀ (i : Nat) (y : Str × V) (z : Str × D), gs[i]? = some y → fs[i]? = some z → Rep K F y.2 z.2 := by
  cases r with
  | obj hc h ho hl hi => exact ⟨_, _, _, _, rfl, hc, h, hl, hi⟩
theorem look_both {f : Str} {d : D} : ∀ {gs : List (Str × V)} {fs : List (Str × D)}, gs.map (·.1) = fs.map (·.1) → (∀ (i : Nat) (y : Str × V) (z : Str × D), gs[i]? = some y → fs[i]? = some z → Rep K F y.2 z.2) → fs.lookup f = some d → ∃ v, gs.lookup f = some v ∧ Rep K F v d
  | [], [], _, _, h => by cases h
  | [], _ :: _, h, _, _ => by cases h
  | _ :: _, [], h, _, _ => by cases h
  | (n, v) :: gs, (n', d') :: fs, hk, hi, h => by
    have hn : n = n' := (List.cons.inj hk).1
    subst hn
    rw [List.lookup_cons] at h ⊢
    cases q : f == n with
    | true =>
      rw [q] at h
      have e := Option.some.inj h
      subst e
      exact ⟨v, rfl, hi 0 (n, v) (n, d') rfl rfl⟩
    | false =>
      rw [q] at h
      exact look_both (List.cons.inj hk).2 (fun i y z h1 h2 => hi (i + 1) y z h1 h2) h
/-- o.f, o of a class that is data; the class itself has no such name -/
theorem dm_fld {n f : Str} {C : Addr} {fs : α → List (Str × D)} {g : α → β} (hc : c.K.cm n = some C) (hn : NoAttr c.K.K C f) (henc : ∀ z, enc z = .obj n (fs z)) (hl : ∀ z, (fs z).lookup f = some (eb (g z))) (ha : DM c a ρ enc m) (hb : ∀ env, attributeBase a f env (eval a env) = eval a env := by intro _; rfl) :
    DM c (.Attribute a f pos) ρ eb (m >>= fun z => pure (g z)) := by
  obtain ⟨t, h1, h2⟩ := ha
  refine ⟨tFld c.K.K t f, fun X I => by rw [← I.K]; exact pe_fld (h1 X I) (hb _), fun aS B s F H σ R Q q => h2 aS B s F H σ R _ (q.bind.imp fun z s1 q1 v F1 H1 fr hs r => ?_)⟩
  rw [henc] at r
  obtain ⟨p, C', dx, gs, rfl, hc', h3, hk, hi⟩ := obj_inv r
  rw [hc] at hc'
  cases hc'
  obtain ⟨u, h4, r4⟩ := look_both hk hi (hl z)
  exact ⟨p, C, dx, gs, u, rfl, fr.fh _ _ h3, (c.g.cls n C hc).cl, hn, h4, q1 u F1 H1 fr hs r4⟩

/-! ### statements on lists of one's own -/
theorem REnv.ownAt {i : Nat} (R : REnv aS K B s F H σ ρ) (h : ρ[i]? = some (.ow l)) {p : Addr} (e : σ[i]? = some (some (V.ref p))) : ∃ vs, B.h p = none ∧ aS ≠ some p ∧ F p = none ∧ H p = some (.lst vs) ∧ l.length ≤ LIM ∧ Reps K F vs l := by
  obtain ⟨p', vs, e', r⟩ := R.own h
  rw [e] at e'
  cases e'
  exact ⟨vs, r⟩
theorem map_erase (f : α → β) : ∀ (l : List α) (i : Nat), (l.eraseIdx i).map f = (l.map f).eraseIdx i
  | [], i => by simp
  | x :: l, 0 => rfl
  | x :: l, i + 1 => by simp [List.eraseIdx, map_erase f l i]
theorem Paired.erase' {α β : Type} {G : α → β → Prop} : ∀ {l : List α} {m : List β} (n : Nat), Paired G l m → Paired G (l.eraseIdx n) (m.eraseIdx n)
  | _, _, _, .nil => .nil
  | _, _, 0, .cons _ t => t
  | _, _, n + 1, .cons r t => .cons r (Paired.erase' n t)
/-- x.pop(e), x a list of one's own: the item, and x without it -/
def popI {α : Type} (xs : List α) (i : Int) : Option (α × List α) := match ixN xs.length i with
  | some j => match xs[j]? with
    | some y => if -(2 ^ 63) ≤ i ∧ i < 2 ^ 63 then some (y, xs.eraseIdx j) else none
    | none => none
  | none => none
theorem popI_ok {xs : List α} {i : Int} {y : α} {zs : List α} (h : popI xs i = some (y, zs)) : ∃ j, ixN xs.length i = some j ∧ xs[j]? = some y ∧ zs = xs.eraseIdx j ∧ -(2 ^ 63) ≤ i ∧ i < 2 ^ 63 := by
  unfold popI at h
  split at h
  · rename_i j hj
    split at h
    · rename_i y' hy
      split at h
      · rename_i hb
        cases h
        exact ⟨j, hj, hy, rfl, hb⟩
      · cases h
    · cases h
  · cases h
theorem de_popAt (i : Nat) (xs : List α) {mi : M Int} (hN : c.N[i]? = some x) (hv : Vis c.sc x) (h0 : ρ[i]? = some (.ow (xs.map enc))) (he : DM c e ρ D.int mi) (hs : NoStar e := by intro _ _; rfl) (hl : (p3.endLine == p4.line) = true := by rfl) (hd : (x == ("__debug__" : Str)) = false := by decide) (hcd : (x == ("__classdict__" : Str)) = false := by decide) :
    DE c (.Call (.Attribute (.Name x p2) "pop" p3) [e] [] p4) ρ (fun p : α × List α => enc p.1) (mi >>= fun j => ofO (popI xs j)) (fun p => ρ.set i (.ow (p.2.map enc))) := by
  obtain ⟨t, h1, h2⟩ := he
  refine ⟨tBM c.K.K "list" rPopAt (tVar i) (tCons t tNil), fun X I => ?_, fun aS B s F H σ R Q q => ?_⟩
  · rw [← I.K]
    exact pe_bm PySem.F.plainAttrs_list PySem.F.slot_list_pop PySem.F.type_list_pop mt_popAt (pe_var (i := i) (by rw [I.N]; exact hN) (by rw [I.sc]; exact hv) hd hcd) (pa_cons (h1 X I) pa_nil (hs _ _)) rfl (few1 hs _) hl (hs _ _) rfl
  obtain ⟨p, vs, e1, nb, ns, hF, hH, hz, r⟩ := R.own h0
  refine ⟨_, e1, ow_sq hH, h2 aS B s F H σ R _ (q.bind.imp fun j s1 q1 v F1 H1 f hs1 r1 => ?_)⟩
  obtain ⟨⟨y, zs⟩, hp, q2⟩ := q1.ofO
  obtain ⟨n, hn, hy, rfl, hb1, hb2⟩ := popI_ok hp
  have R1 := R.step f hs1
  obtain ⟨vs', nb', ns', hF', hH', hz', r'⟩ := R1.ownAt h0 e1
  have hl' : vs'.length = xs.length := by rw [r'.length, List.length_map]
  obtain ⟨w, hw, rw1⟩ := r'.get (i := n) (d := enc y) (by rw [List.getElem?_map, hy]; rfl)
  refine ⟨p, vs', j, n, w, rfl, by rw [r1.int_inv], hH', hb1, hb2, ?_, hw, ?_⟩
  · rw [hl']; exact (ixN_seq hn).1
  · exact q2 w F1 _ (R1.mut (vs := vs') (m := (xs.eraseIdx n).map enc) h0 e1 (by rw [map_erase]; exact Nat.le_trans (len_erase _ _) hz') (by rw [map_erase]; exact Paired.erase' n r')) rw1
theorem Paired.set' {α β : Type} {G : α → β → Prop} {x : α} {y : β} (h : G x y) : ∀ {l : List α} {m : List β} (n : Nat), Paired G l m → Paired G (l.set n x) (m.set n y)
  | _, _, _, .nil => .nil
  | _, _, 0, .cons _ t => .cons h t
  | _, _, n + 1, .cons r t => .cons r (Paired.set' h n t)
end
end Dl

/-! Dl, part K: enumerate of a tuple, zip. -/
namespace Dl
open PySem PySem.Spec PyProof.Rows L2
open Evl (Ex)
/-- enumerate over a tuple of n items -/
def Iet (K : PySem.W.Frag) (a : Addr) (n : Nat) : It :=
  ⟨fun i H => ∃ (xs : List V) (x : V), SqT K H a xs ∧ xs.length = n ∧ xs[i]? = some x, fun i H v H' => ∃ T x, v = .ref T ∧ H T = none ∧ H' = upd H T (.tup [.int (i : Nat), x]) ∧ ∀ xs, SqT K H a xs → xs[i]? = some x, fun i H => ∃ xs : List V, SqT K H a xs ∧ xs.length = n ∧ n ≤ i⟩
theorem turn_enumT {P : Program} {w : World} {K : PySem.W.Frag} {es : List Expr} {kk : Nat} {tp : Pos} (a e it : Addr) (n : Nat) :
    Turn P w K (.Tuple es kk tp) (Iet K a n) [e, it] e (fun i h => (∃ old, IsEnum h e it ((i : Nat) : Int) old) ∧ h.IsTupleIter it a i ∧ e ≠ it ∧ a ≠ it ∧ e ≠ a ∧ i ≤ n) where
  mem := List.mem_cons_self
  obj := fun i h st b hb => by
    obtain ⟨⟨old, he⟩, ⟨o, ho, _, hd⟩, _⟩ := st
    rcases List.mem_cons.mp hb with z | z
    · subst z
      exact ⟨_, he, fun v q => nomatch q⟩
    · have z2 := List.mem_singleton.mp z
      subst z2
      exact ⟨o, ho, fun v q => by rw [hd] at q; cases q⟩
  keep := fun i h h' st k => ⟨st.1.imp fun old he => k e (by simp) _ he, st.2.1.at fun o q => k it (by simp) o q, st.2.2⟩
  item := by
    intro X hP hw hK hc i pins s σ H E I hf st hg
    subst hP hw hK
    obtain ⟨⟨old, he⟩, hit, hne, hai, hea, hle⟩ := st
    obtain ⟨xs, x, hq, hn, hx⟩ := hg
    obtain ⟨its, rv, p, hz⟩ := I.tuple hq
    have hin : i < n := by rw [← hn]; exact (List.getElem?_eq_some_iff.mp hx).1
    have hsz : its.toArray.size = n := by rw [← hn, rv.length]; simp
    have hp : s.heap.IsTuple a its.toArray := p
    have hel := Heap.lt_size he
    have hil : it < s.heap.objs.size := by obtain ⟨_, q, _⟩ := hit; exact Heap.lt_size q
    refine wpAny_pyNext_enum_itemD (Draws.tuple (A := X.A.in1) (I.ok.hd hc) it a hai its.toArray) he ⟨hit, hp⟩ (by rw [hsz]; exact hin) hne (by simp only [List.mem_cons, List.not_mem_nil, or_false, not_or]; exact ⟨hne, hea⟩) fun u h' tk hu ho hit' hT hs1 hk => ?_
    obtain ⟨u', hu', ru⟩ := rv.get hx
    have euu : u' = u := by
      have h5 : its[i]? = some u := by simpa using hu
      rw [h5] at hu'
      exact (Option.some.inj hu').symm
    subst euu
    refine ⟨_, rfl, wpAny_letOwnedTupleGo_enum (s := { s with heap := h', toks := tk + 1 }) ho fun h'' he' sb => ?_⟩
    have hT2 : h''.get? s.heap.objs.size = some { cls := .type "tuple", data := .seq #[.int i tk, u'] } := (sb.2 _ (Ne.symm (Nat.ne_of_lt hel))).trans hT
    have I1 : Inv X pins σ (upd H s.heap.objs.size (.tup [.int (i : Nat), x])) { s with heap := h'', toks := tk + 1 } :=
      I.turnedNew (ch := [e, it]) (fun b ob hb q => by
        simp only [List.mem_cons, List.not_mem_nil, or_false, not_or] at hb
        exact (sb.2 b hb.1).trans (hk b ob hb.1 hb.2 q)) hf (Nat.le_refl _) ⟨by show 2 ≤ sizeLine; decide, _, .cons ⟨tk, rfl⟩ (.cons ru .nil), _, hT2, rfl, _, rfl⟩
    refine ⟨.ref s.heap.objs.size, _, I1, rfl, ⟨_, x, rfl, I.hok.fresh (Nat.le_refl _), rfl, fun ys hy => by rw [I.tuple_inj hy hq]; exact hx⟩, ⟨⟨u', by rw [show ((i + 1 : Nat) : Int) = (i : Int) + 1 from rfl]; exact he'⟩, hit'.1.at fun o q => (sb.2 it (Ne.symm hne)).trans q, hne, hai, hea, hin⟩, fun b hb => ?_⟩
    have hb' : b < s.heap.objs.size := by
      rcases List.mem_cons.mp hb with z | z
      · exact z ▸ hel
      · exact (List.mem_singleton.mp z) ▸ hil
    rw [upd_ne (Nat.ne_of_lt hb')]
    exact (hf b hb).1
  done := by
    intro X hP hw hK hc i pins s σ H E I hf st hg
    subst hP hw hK
    obtain ⟨⟨old, he⟩, hit, hne, hai, hea, hle⟩ := st
    obtain ⟨xs, hq, hn, hx⟩ := hg
    obtain ⟨its, rv, p, hz⟩ := I.tuple hq
    obtain ⟨f0, f1, f2, f3, f4, f5⟩ := hf it (by simp)
    have hsz : its.toArray.size = i := by rw [Nat.le_antisymm hle hx, ← hn, rv.length]; simp
    have hp : s.heap.IsTuple a its.toArray := p
    exact wpAny_pyNext_enum_endD (Draws.tuple (A := X.A.in1) (I.ok.hd hc) it a hai its.toArray) he (by rw [hsz]; exact ⟨hit, hp⟩) fun h' eb => ⟨rfl, I.turned (t' := s.toks) (fun b o hb q => eb b o hb q) f0 f1 f3 f4 f5⟩
  self := fun A i s Q E st h => wpAny_pyIter_enum st.1.choose_spec h
theorem meets_enumT (t : Addr) (its : Array Value) :
    Meets (Builtin.«enumerate.__new__» ⟨[.type "enumerate", .ref t], []⟩) (fun _ R s => s.heap.IsTuple t its ∧
      R (.ok (.ret (.ref (s.heap.push { cls := .type "tuple_iterator", data := .fields #[.ref t, .int 0 0] }).objs.size))) { s with heap := (s.heap.push { cls := .type "tuple_iterator", data := .fields #[.ref t, .int 0 0] }).push { cls := .type "enumerate", data := .fields #[.none, .bool false, .ref s.heap.objs.size, rawInt 0, .none, .none] } }) :=
  .of_wp fun prog w A R s hs => by
    obtain ⟨hp, g, d, tk, os⟩ := s
    obtain ⟨h1, h⟩ := hs
    have sub := sub_enumerate
    have q1 : ∀ {A' : Around} {E : Value → Shared → Prop} {Q : Value → Shared → Prop}, Q (.ref hp.objs.size) ⟨hp.push { cls := .type "tuple_iterator", data := .fields #[.ref t, .int 0 0] }, g, d, tk, os⟩ → wpAny (model prog w) A' (pyIter (.ref t)) Q E ⟨hp, g, d, tk, os⟩ :=
      fun q => wpAny_pyIter_tuple (s := ⟨hp, g, d, tk, os⟩) h1 q
    wp_walk using q1
    refine wpAny_stack_any fun st => wpAny_pure ?_
    split
    · rename_i kl _ _ _ _ _
      cases (kl == Value.type "enumerate") <;> (wp_walk using q1; exact ⟨_, rfl, h⟩)
    · wp_walk using q1
      exact ⟨_, rfl, h⟩
theorem call_enumT {prog : Program} {w : World} {A : Around} {E : Value → Shared → Prop} {s : Shared} {t : Addr} {its : Array Value} {Q : Value → Shared → Prop} (hL : s.heap.IsTuple t its)
    (h : ∀ h', IsEnum h' (s.heap.objs.size + 1) s.heap.objs.size 0 .none → h'.IsTupleIter s.heap.objs.size t 0 → h'.objs.size = s.heap.objs.size + 2 → (∀ b o, s.heap.get? b = some o → h'.get? b = some o) → Q (.ref (s.heap.objs.size + 1)) { s with heap := h' }) :
    wpAny (model prog w) A (call (.type "enumerate") [.ref t]) Q E s := by
  refine callType_new F.called_enumerate (by decide) (F.typeCall_enumerate_1 _) (F.newCall_enumerate_1 _) (fun ob => F.args_object_init_2 ob _) F.entry_enumerate_new (meets_enumT t its) ⟨hL, ?_⟩
  have hz := Heap.size_push s.heap { cls := .type "tuple_iterator", data := .fields #[.ref t, .int 0 0] }
  have he := Heap.get?_push_size (s.heap.push { cls := .type "tuple_iterator", data := .fields #[.ref t, .int 0 0] }) (o := { cls := .type "enumerate", data := .fields #[.none, .bool false, .ref s.heap.objs.size, rawInt 0, .none, .none] }) rfl
  show _ ∧ _
  rw [hz] at he ⊢
  exact ⟨⟨_, he, rfl⟩, h _ he ⟨_, Heap.get?_push_of_some _ (Heap.get?_push_size _ rfl), rfl, rfl⟩ (by rw [Heap.size_push, hz]) fun b o x => Heap.get?_push_of_some _ (Heap.get?_push_of_some _ x)⟩
def iEnT (K : PySem.W.Frag) (ta : TA) : TI := fun σ H R => ta σ H fun vs H1 => ∃ a xs, vs = [.ref a] ∧ SqT K H1 a xs ∧ R (Iet K a xs.length) H1
theorem pi_enumT {X : Cx} {e : Expr} {ta : TA} {p pos tp : Pos} {es : List Expr} {kk : Nat} (hg : Gl X "enumerate") (hm : X.mg "enumerate" = none) (ha : PA X [e] ta) (hs : starEach [e] X.env = [(false, eval e X.env)]) :
    PI X (.Tuple es kk tp) (.Call (.Name "enumerate" p) [e] [] pos) (iEnT X.K ta) := by
  refine ⟨fun pins s σ H R I h => Call_ (ld_blt I hg hm boot_enumerate (PyProof.Rows.callWith_type1 (thn (ha.run pos pins s σ H _ I h) fun us s1 ⟨vs, H1, I1, r1, q1⟩ => ?_) hs rfl))⟩
  obtain ⟨a, xs, rfl, hq, q⟩ := q1
  cases r1 with
  | cons r rr =>
    cases rr
    cases r
    obtain ⟨its, rv, p', hz⟩ := I1.tuple hq
    have ht : s1.heap.IsTuple a its.toArray := p'
    have hal : a < s1.heap.objs.size := by obtain ⟨_, q, _⟩ := id p'; exact Heap.lt_size q
    refine call_enumT ht fun h' he hit _ hk => wpAny_pyIter_enum he ?_
    have I2 : Inv X pins σ H1 { s1 with heap := h' } := I1.kept (t' := s1.toks) hk
    refine ⟨s1.heap.objs.size + 1, [s1.heap.objs.size + 1, s1.heap.objs.size], _, _, H1, rfl, I2, turn_enumT a (s1.heap.objs.size + 1) s1.heap.objs.size xs.length, ⟨⟨.none, he⟩, hit, Nat.succ_ne_self _, Nat.ne_of_lt hal, Ne.symm (Nat.ne_of_lt (Nat.lt_succ_of_lt hal)), Nat.zero_le _⟩, fun b hb => ?_, q⟩
    have hle : s1.heap.objs.size ≤ b := by
      rcases List.mem_cons.mp hb with z | z
      · exact z ▸ Nat.le_succ _
      · exact (List.mem_singleton.mp z) ▸ Nat.le_refl _
    exact I1.fpOk hle (I1.hok.fresh hle)
end Dl
namespace Dl
open PySem PySem.Spec PyProof.Rows L2
open Evl (Ex)
def enumI {α : Type} (xs : List α) : List (Int × α) := xs.mapIdx fun i x => ((i : Int), x)
theorem enumI_length {α : Type} (xs : List α) : (enumI xs).length = xs.length := by unfold enumI; rw [List.length_mapIdx]
theorem enumI_get {α : Type} (xs : List α) (i : Nat) : (enumI xs)[i]? = xs[i]?.map fun x => ((i : Int), x) := by unfold enumI; rw [List.getElem?_mapIdx]
variable {c : Ct} {e a b : Expr} {es : List Expr} {sts rest : List Stmt} {ρ ρ1 : List Sl} {d d1 d2 : D} {ds l : List D} {α β γ δ A R : Type} {enc : α → D} {eb : β → D} {m : M α} {pos p2 p3 p4 p5 p6 : Pos} {x y : Str} {aS : Option Addr} {K : Kx} {F F' H H' : Hp} {s : List D} {σ : L2.St} {B : Bs} {out : γ → Oc}
theorem pair_new {ex : Ex F H} {v w : V} {T : Addr} (hT : H T = none) (r1 : Rep K F v d1) (r2 : Rep K F w d2) : ∃ F', Fp F H F' (upd H T (.tup [v, w])) ∧ Rep K F' (.ref T) (.tup [d1, d2]) := by
  refine ⟨upd F T (.tup [v, w]), Fp.new ex hT, Rep.mk_tup (vs := [v, w]) (upd_same) (by show 2 ≤ 1000000; decide) ?_⟩
  have hm : Ex F (upd F T (.tup [v, w])) := (Fp.new (o := .tup [v, w]) ex hT).ff
  exact .cons (r1.mono hm) (.cons (r2.mono hm) .nil)
theorem pair_at {xs : List (α × β)} {e1 : α → D} {e2 : β → D} {i : Nat} (h : (xs.map (eP e1 e2))[i]? = some d) : ∃ p, xs[i]? = some p ∧ d = .tup [e1 p.1, e2 p.2] := by
  rw [List.getElem?_map] at h
  cases hx : xs[i]? with
  | none => rw [hx] at h; cases h
  | some p => rw [hx] at h; cases h; exact ⟨p, rfl, rfl⟩
theorem it_enum {xs : List α} {vs : List V} {J : It} {G : Hp → Hp → Prop} (hz : xs.length ≤ LIM) (rs : Reps K F vs (xs.map enc)) (hG : ∀ F2 H2, Ex F2 H2 → G F2 H2 → Ex F F2)
    (h1 : ∀ F2 H2, Ex F2 H2 → G F2 H2 → ∀ (i : Nat) w, vs[i]? = some w → J.go i H2) (h2 : ∀ F2 H2, Ex F2 H2 → G F2 H2 → ∀ i, vs.length ≤ i → J.stop i H2) (h3 : ∀ F2 H2, Ex F2 H2 → G F2 H2 → ∀ (i : Nat) v H3, J.yld i H2 v H3 → ∃ T w, v = .ref T ∧ H2 T = none ∧ H3 = upd H2 T (.tup [.int (i : Nat), w]) ∧ vs[i]? = some w) :
    ItOk K J ((enumI xs).map (eP D.int enc)) G := by
  have hl : vs.length = xs.length := by rw [rs.length, List.length_map]
  refine ⟨by rw [List.length_map, enumI_length]; exact hz, fun F2 H2 ex g i hi => ?_, fun F2 H2 ex g i hi => ?_, fun F2 H2 ex g i y H3 d hd hy => ?_⟩
  · rw [List.length_map, enumI_length, ← hl] at hi
    exact h1 _ _ ex g i _ (List.getElem?_eq_getElem hi)
  · rw [List.length_map, enumI_length, ← hl] at hi
    exact h2 _ _ ex g i hi
  · obtain ⟨T, w, rfl, hT, rfl, hw⟩ := h3 _ _ ex g i y H3 hy
    obtain ⟨p, hp, rfl⟩ := pair_at hd
    rw [enumI_get] at hp
    cases hx : xs[i]? with
    | none => rw [hx] at hp; cases hp
    | some z =>
      rw [hx] at hp
      cases hp
      exact pair_new (ex := ex) hT (.int _) ((rs.at i w (enc z) hw (by rw [List.getElem?_map, hx]; rfl)).mono (hG _ _ ex g))
section
variable {kk : Nat}
theorem di_enumT {mx : M (List α)} (hg : GI c "enumerate") (hm : c.mg "enumerate" = none) (ha : DM c a ρ (eT enc) mx) (hs : NoStar a := by intro _ _; rfl) : DI c (.Tuple es kk p5) (.Call (.Name "enumerate" p2) [a] [] pos) true ρ (eP D.int enc) (mx >>= fun xs => pure (enumI xs)) := by
  obtain ⟨t, q1, q2⟩ := ha
  refine ⟨iEnT c.K.K (tCons t tNil), fun X I => by rw [← I.K]; exact pi_enumT (gl_of I hg) (by rw [I.mg]; exact hm) (pa_cons (q1 X I) pa_nil (hs _ _)) (hs _ _), fun aS B s F H σ R Q q => ?_⟩
  refine q2 aS B s F H σ R _ (q.bind.imp fun xs s1 q1 v F1 H1 f hs1 r => ?_)
  obtain ⟨p, vs, e0, h3, hz, rs⟩ := r.of_tup
  subst e0
  rw [List.length_map] at hz
  refine ⟨p, vs, rfl, SqT.of (f.fh _ _ h3), ?_⟩
  exact q1 _ F1 H1 _ f hs1 (it_enum hz rs (G := fun F2 _ => Ex F1 F2) (fun F2 H2 _ g => g) (fun F2 H2 ex g i w hw => ⟨vs, w, SqT.of (ex _ _ (g _ _ h3)), rfl, hw⟩) (fun F2 H2 ex g i hi => ⟨vs, SqT.of (ex _ _ (g _ _ h3)), rfl, hi⟩) fun F2 H2 ex g i v H3 hy => by
      obtain ⟨T, w, e1, e2, e3, e4⟩ := hy
      exact ⟨T, w, e1, e2, e3, e4 vs (SqT.of (ex _ _ (g _ _ h3)))⟩) (fun F2 H2 f2 => f2.ff) fun _ F2 H2 g _ => g
theorem di_enumL {mx : M (List α)} (hg : GI c "enumerate") (hm : c.mg "enumerate" = none) (ha : DM c a ρ (eL enc) mx) (hs : NoStar a := by intro _ _; rfl) : DI c (.Tuple es kk p5) (.Call (.Name "enumerate" p2) [a] [] pos) true ρ (eP D.int enc) (mx >>= fun xs => pure (enumI xs)) := by
  obtain ⟨t, q1, q2⟩ := ha
  refine ⟨iEnum c.K.K (tCons t tNil), fun X I => by rw [← I.K]; exact pi_enum (gl_of I hg) (by rw [I.mg]; exact hm) (pa_cons (q1 X I) pa_nil (hs _ _)) (hs _ _), fun aS B s F H σ R Q q => ?_⟩
  refine q2 aS B s F H σ R _ (q.bind.imp fun xs s1 q1 v F1 H1 f hs1 r => ?_)
  obtain ⟨p, vs, e0, h3, hz, rs⟩ := r.of_lst
  subst e0
  rw [List.length_map] at hz
  refine ⟨p, vs, rfl, SqL.of (f.fh _ _ h3), ?_⟩
  exact q1 _ F1 H1 _ f hs1 (it_enum hz rs (G := fun F2 _ => Ex F1 F2) (fun F2 H2 _ g => g) (fun F2 H2 ex g i w hw => ⟨vs, w, SqL.of (ex _ _ (g _ _ h3)), hw⟩) (fun F2 H2 ex g i hi => ⟨vs, SqL.of (ex _ _ (g _ _ h3)), hi⟩) fun F2 H2 ex g i v H3 hy => by
      obtain ⟨T, w, e1, e2, e3, e4⟩ := hy
      exact ⟨T, w, e1, e2, e3, e4 vs (SqL.of (ex _ _ (g _ _ h3)))⟩) (fun F2 H2 f2 => f2.ff) fun _ F2 H2 g _ => g
end
end Dl

/-! Dl, part L: sorted of lists, tuples, sets of tuples. -/
namespace Dl
open PySem PySem.Spec PyProof.Rows L2
open Evl (Ex)
open PySem.Calls PySem.W
/-- pairs of a value and its data, that can be sorted -/
structure SrtOk (K : PySem.W.Frag) (H : Hp) (ps : List (V × D)) : Prop where
  dp : ∀ p ∈ ps, Dp K H p.1 (py p.2)
  al : AllAlike (ps.map fun p => py p.2)
  so : Sortable (ps.map fun p => py p.2) ∨ (ps.length ≤ 1 ∧ ∀ d ∈ ps.map (fun p => py p.2), d ≠ .none)
  dep : ∀ p ∈ ps, (py p.2).depth ≤ 60
  few : ps.length ≤ LIM
/-- one thing, or none, is sorted as it is -/
theorem SortsAt.few {prog : Program} {w : World} {A : Around} {s : Shared} {vs : List Value} {ds : List PyData} (e : EachIs (fun v d => ∃ as, Reads s.heap v d as) vs ds) (hal : AllAlike ds) (h1 : vs.length ≤ 1) (hn : ∀ d ∈ ds, d ≠ .none) (hu : ∀ d, d ∈ ds → A.units + d.depth < cLine) : SortsAt prog w A s (dataKind s.heap ds) vs := by
  refine ⟨fun v hv => ?_, general', ?_, fun h2 => absurd h2 (by omega)⟩
  · obtain ⟨d, hd, as, r⟩ := e.left v hv
    exact ⟨_, dataKind_some hal hd r⟩
  · intro E x y a b Q ha hb hq
    obtain ⟨d, as, hd, ra, rfl⟩ := dataKind_inv ha
    obtain ⟨d', as', hd', rb, rfl⟩ := dataKind_inv hb
    show wpAny (model prog w) A (oneLt' false x y) Q E s
    exact oneLt_alike (fun z => nomatch z) ra rb (hal d hd d' hd') (hn d hd) (Nat.lt_of_le_of_lt (Nat.add_le_add_left (Nat.min_le_left _ _) _) (hu d hd)) hq
def outS (ps : List (V × D)) : List (V × D) := ps.mergeSort (dataLe false fun p => py p.2)
theorem each_vals {R : Value → V × D → Prop} : ∀ {ps : List (V × D)} {us : List Value}, Vals (ps.map (·.1)) us → (∀ p ∈ ps, ∀ u, RelV p.1 u → R u p) → EachIs R us ps
  | [], _, .nil, _ => .nil
  | p :: ps, _, .cons r t, h => .cons (h p List.mem_cons_self _ r) (each_vals t fun q hq => h q (List.mem_cons_of_mem _ hq))
theorem vals_each : ∀ {ps : List (V × D)} {us : List Value}, EachIs (fun u p => RelV p.1 u) us ps → Vals (ps.map (·.1)) us
  | _, _, .nil => .nil
  | _, _, .cons r t => .cons r (vals_each t)
section
variable {prog : Program} {w : World} {A : Around} {E : Value → Shared → Prop} {s : Shared}
theorem sorted_col {u : Value} {C : List Value → Prop} {Q : Value → Shared → Prop} (hf : ∀ vs, C vs → vs.length ≤ sizeLine)
    (hcol : ∀ Q' : List Value → Shared → Prop, (∀ s1 vs, (∀ b o, s.heap.get? b = some o → s1.heap.get? b = some o) → s.heap.objs.size ≤ s1.heap.objs.size → s1.gens = s.gens → s1.os = s.os → C vs → Q' vs s1) → wpAny (model prog w) A.in1 (collect u) Q' E s)
    (body : ∀ (s1 : Shared) vs, (∀ b o, s.heap.get? b = some o → s1.heap.get? b = some o) → s.heap.objs.size ≤ s1.heap.objs.size → s1.gens = s.gens → s1.os = s.os → C vs →
      ∃ κ, SortsAt prog w A.in1.in1 { s1 with heap := sortingHeap (s1.heap.push (seqObj "list" vs.toArray 0)) s1.heap.objs.size vs } κ vs ∧
        Q (.ref s1.heap.objs.size) { s1 with heap := sortedHeap (s1.heap.push (seqObj "list" vs.toArray 0)) s1.heap.objs.size vs (sortVals κ false vs vs).toArray }) :
    wpAny (model prog w) A (call (.builtin "sorted") [u]) Q E s := by
  refine Calls.call_function_entry kind_sorted plain_sorted entry_sorted (args_sorted1 _) ?_
  unfold Builtin.«sorted»
  refine wpAny_bind (m := checkCount "sorted" 1 1 _) (wpAny_pure ?_)
  refine wpAny_bind (hcol _ fun s1 vs k hz g o hC => ?_)
  obtain ⟨κ, S, q⟩ := body s1 vs k hz g o hC
  refine wpAny_bind (wpAny_newList ?_ (hf vs hC))
  have hat : (s1.heap.push (seqObj "list" vs.toArray 0)).get? s1.heap.objs.size = some (seqObj "list" vs.toArray 0) := Heap.get?_push_size _ rfl
  refine wpAny_bind (wpAny_holding (wpAny_call_entry_kw slot_list_sort ⟨_, hat, rfl⟩ entry_list_sort ?body (args_list_sort _)))
  case body =>
    show wpAny (model prog w) A.in1.in1 (Builtin.«list.sort» ⟨[.ref s1.heap.objs.size], []⟩) _ _ { s1 with heap := s1.heap.push (seqObj "list" vs.toArray 0) }
    exact list_sort_vals (s := { s1 with heap := s1.heap.push (seqObj "list" vs.toArray 0) }) hat S (hf vs hC) ⟨_, rfl, wpAny_pure ⟨_, rfl, q⟩⟩
end
section
variable {X : Cx} {pins : List (Addr × Obj)} {σ : L2.St} {H : Hp} {s : Shared}
theorem sort_run (I : Inv X pins σ H s) {u : Value} {C : List Value → Prop} {Q : VK} (hu : X.A.units + 65 < cLine)
    (hcol : ∀ (E : Value → Shared → Prop) (Q' : List Value → Shared → Prop), (∀ s1 vs, (∀ b o, s.heap.get? b = some o → s1.heap.get? b = some o) → s.heap.objs.size ≤ s1.heap.objs.size → s1.gens = s.gens → s1.os = s.os → C vs → Q' vs s1) → wpAny (model X.prog X.w) X.A.in1 (collect u) Q' E s)
    (hC : ∀ vs, C vs → ∃ ps, Vals (ps.map (·.1)) vs ∧ SrtOk X.K H ps ∧ ∀ p, H p = none → Q (.ref p) (upd H p (.lst ((outS ps).map (·.1))))) :
    wpAny (model X.prog X.w) X.A (call (.builtin "sorted") [u]) (EP X pins σ Q) X.xe s := by
  refine sorted_col (C := C) (fun vs hc => ?_) (hcol _) fun s1 vs k hz g o hc => ?_
  · obtain ⟨ps, rv, ok, _⟩ := hC vs hc
    rw [← rv.length, List.length_map]
    exact lim_line ok.few
  · obtain ⟨ps, rv, ok, q⟩ := hC vs hc
    have hlt : s.heap.objs.size ≤ s1.heap.objs.size := hz
    have kp : ∀ b ob, s.heap.get? b = some ob → (sortingHeap (s1.heap.push (seqObj "list" vs.toArray 0)) s1.heap.objs.size vs).get? b = some ob := fun b ob e =>
      sortingHeap_old (Nat.ne_of_lt (Nat.lt_of_lt_of_le (Heap.lt_size e) hlt)) (Heap.get?_push_of_some _ (k b ob e))
    have er : EachIs (fun v p => ∃ as, Reads (sortingHeap (s1.heap.push (seqObj "list" vs.toArray 0)) s1.heap.objs.size vs) v (py p.2) as) vs ps :=
      each_vals rv fun p hp u ru => by
        obtain ⟨as, r⟩ := Dp.reads I _ _ _ (ok.dp p hp) ru
        exact ⟨as, PyProof.Rows.Reads.keeps kp r⟩
    have hdp : ∀ d, d ∈ ps.map (fun p => py p.2) → X.A.in1.in1.units + d.depth < cLine := fun d hd => by
      obtain ⟨p, hp, rfl⟩ := List.mem_map.mp hd
      have := ok.dep p hp
      show X.A.units + 1 + 1 + _ < cLine
      omega
    have em := each_map (R := fun v d => ∃ as, Reads (sortingHeap (s1.heap.push (seqObj "list" vs.toArray 0)) s1.heap.objs.size vs) v d as) (fun p : V × D => py p.2) er
    refine ⟨_, ok.so.elim (fun so => SortsAt.data (s := { s1 with heap := sortingHeap (s1.heap.push (seqObj "list" vs.toArray 0)) s1.heap.objs.size vs }) (ds := ps.map fun p => py p.2) em ok.al so hdp) (fun so => SortsAt.few (s := { s1 with heap := sortingHeap (s1.heap.push (seqObj "list" vs.toArray 0)) s1.heap.objs.size vs }) (ds := ps.map fun p => py p.2) em ok.al ?_ so.2 hdp), ?_⟩
    · have := rv.length
      rw [List.length_map] at this
      rw [← this]
      exact so.1
    · have eo : EachIs (fun u (p : V × D) => RelV p.1 u) (sortVals (dataKind (sortingHeap (s1.heap.push (seqObj "list" vs.toArray 0)) s1.heap.objs.size vs) (ps.map fun p => py p.2)) false vs vs) (outS ps) :=
        sortVals_data (enc := fun p : V × D => py p.2) false (each_vals rv fun p _ u ru => ru) er ok.al
      generalize sortVals (dataKind (sortingHeap (s1.heap.push (seqObj "list" vs.toArray 0)) s1.heap.objs.size vs) (ps.map fun p => py p.2)) false vs vs = out at eo ⊢
      have rvo := vals_each eo
      obtain ⟨c, hc2⟩ := sortedHeap_at (vs := vs) (out := out.toArray) (n := 0) (h := s1.heap.push (seqObj "list" vs.toArray 0)) (a := s1.heap.objs.size) (Heap.get?_push_size _ rfl)
      have hn : H s1.heap.objs.size = none := I.hok.fresh hlt
      have kf : ∀ b ob, s.heap.get? b = some ob → (sortedHeap (s1.heap.push (seqObj "list" vs.toArray 0)) s1.heap.objs.size vs out.toArray).get? b = some ob := fun b ob e => by
        have hb := Nat.lt_of_lt_of_le (Heap.lt_size e) hlt
        rw [sortedHeap_old (Nat.ne_of_lt hb) (by rw [size_push']; exact Nat.lt_succ_of_lt hb)]
        exact Heap.get?_push_of_some _ (k b ob e)
      have hl : ((outS ps).map (·.1)).length ≤ sizeLine := by
        unfold outS
        rw [List.length_map, List.length_mergeSort]
        exact lim_line ok.few
      have J : Inv X pins σ (upd H s1.heap.objs.size (.lst ((outS ps).map (·.1)))) { s1 with heap := sortedHeap (s1.heap.push (seqObj "list" vs.toArray 0)) s1.heap.objs.size vs out.toArray } :=
        I.call' (ch := []) o (Un.laid kf hlt hn) (I.hok.laid kf hlt ⟨hl, out.toArray.toList, c, by simpa using rvo, by simpa using hc2⟩) (by show AllBare s1.gens; rw [g]; exact I.bare) (fun _ z => nomatch z)
      exact ⟨.ref s1.heap.objs.size, _, J, rfl, q _ hn⟩
end
/-! ### typed: what can be sorted, and how -/
structure Srts {α : Type} [DecidableEq α] (enc : α → D) (lt : α → α → Bool) (ok : α → Bool) : Prop where
  al : ∀ x y, alike (py (enc x)) (py (enc y)) = true
  lt : ∀ x y, dataLt (py (enc x)) (py (enc y)) = lt x y
  so : (∀ x, ok x = true → ∃ a r, py (enc x) = .tuple (a :: r)) ∨ (∀ x, ok x = true → py (enc x) ≠ .none ∧ ∀ xs, py (enc x) ≠ .tuple xs)
  nn : ∀ x, py (enc x) ≠ .none
abbrev ltI (x y : Int) : Bool := decide (x < y)
def ltL {α : Type} [DecidableEq α] (lt : α → α → Bool) : List α → List α → Bool
  | [], [] => false
  | [], _ :: _ => true
  | _ :: _, [] => false
  | x :: xs, y :: ys => if x = y then ltL lt xs ys else lt x y
def ltP {α β : Type} [DecidableEq α] [DecidableEq β] (lt : α → α → Bool) (lt2 : β → β → Bool) (p q : α × β) : Bool := if p.1 = q.1 then (if p.2 = q.2 then false else lt2 p.2 q.2) else lt p.1 q.1
abbrev okA {α : Type} : α → Bool := fun _ => true
def okL {α : Type} : List α → Bool := fun l => !l.isEmpty
section
variable {α β : Type} [DecidableEq α] [DecidableEq β] {e : α → D} {f : β → D} {lt : α → α → Bool} {lt2 : β → β → Bool} {ok : α → Bool} {ok2 : β → Bool} {k m : Nat}
theorem Srts.int : Srts D.int ltI okA :=
  ⟨fun x y => by unfold py; simp [alike], fun x y => by unfold py; rw [dataLt_int], .inr fun x _ => by unfold py; exact ⟨(fun z => nomatch z), (fun xs z => nomatch z)⟩, fun x => by unfold py; exact fun z => nomatch z⟩
theorem Srts.alAll (S : Srts e lt ok) : ∀ l l' : List α, alikeAll (pys (l.map e)) (pys (l'.map e)) = true
  | [], l' => by rw [List.map_nil, pys]; unfold alikeAll; rfl
  | x :: l, [] => by rw [List.map_nil, List.map_cons, pys, pys]; unfold alikeAll; rfl
  | x :: l, y :: l' => by rw [List.map_cons, List.map_cons, pys, pys]; unfold alikeAll; rw [S.al, S.alAll l l'] <;> rfl
theorem Srts.ltAll (S : Srts e lt ok) (E : Eqs e k) : ∀ l l' : List α, PyProof.Rows.lexLt itemOrd (keyToksAll (pys (l.map e))) (keyToksAll (pys (l'.map e))) = ltL lt l l'
  | [], [] => lex_irrefl _
  | [], y :: l' => by
    rw [List.map_nil, List.map_cons, pys, pys]
    simp only [keyToksAll]
    rw [lex_diff (O := itemOrd) (by simp)]
    rfl
  | x :: l, [] => by
    rw [List.map_nil, List.map_cons, pys, pys]
    simp only [keyToksAll]
    rw [lex_diff (O := itemOrd) (by simp)]
    rfl
  | x :: l, y :: l' => by
    rw [List.map_cons, List.map_cons, pys, pys, dataLt_cons (S.al x y), E.eq, S.lt, S.ltAll E l l']
    show _ = if x = y then ltL lt l l' else lt x y
    by_cases h : x = y
    · subst h; simp
    · simp [h]
theorem Srts.tup (S : Srts e lt ok) (E : Eqs e k) : Srts (eT e) (ltL lt) okL :=
  ⟨fun x y => by unfold py; unfold alike; exact S.alAll x y, fun x y => by unfold py; unfold dataLt; simp only [keyToks]; exact S.ltAll E x y, .inl fun x hx => by
    cases x with
    | nil => cases hx
    | cons x xs => exact ⟨py (e x), pys (xs.map e), by show py (.tup (e x :: xs.map e)) = _; rw [py, pys]⟩, fun x => by unfold py; exact fun z => nomatch z⟩
theorem Srts.lst (S : Srts e lt ok) (E : Eqs e k) : Srts (eL e) (ltL lt) okA :=
  ⟨fun x y => by unfold py; unfold alike; exact S.alAll x y, fun x y => by unfold py; unfold dataLt; simp only [keyToks]; exact S.ltAll E x y, .inr fun x _ => by unfold py; exact ⟨(fun z => nomatch z), (fun xs z => nomatch z)⟩, fun x => by unfold py; exact fun z => nomatch z⟩
theorem Srts.pair (S : Srts e lt ok) (E : Eqs e k) (S2 : Srts f lt2 ok2) (E2 : Eqs f m) : Srts (eP e f) (ltP lt lt2) okA :=
  ⟨fun x y => by unfold py; unfold alike; simp only [pys, alikeAll, S.al, S2.al, Bool.and_true], fun x y => by
    unfold py
    unfold dataLt
    simp only [keyToks, pys]
    rw [dataLt_cons (S.al _ _), dataLt_cons (S2.al _ _), E.eq, E2.eq, S.lt, S2.lt, lex_irrefl]
    unfold ltP
    simp only [decide_eq_true_eq], .inl fun x _ => ⟨_, _, by show py (.tup (e x.1 :: [f x.2])) = _; rw [py, pys]⟩, fun x => by unfold py; exact fun z => nomatch z⟩
end
/-- sorted(xs) -/
def leOf {α : Type} (lt : α → α → Bool) (x y : α) : Bool := !lt y x
theorem dataLe_lt (a b : D) : dataLe false (fun d : D => py d) a b = !dataLt (py b) (py a) := rfl
section
variable {c : Ct} {a : Expr} {ρ : List Sl} {α : Type} [DecidableEq α] {enc : α → D} {lt : α → α → Bool} {ok : α → Bool} {k : Nat} {pos p2 p3 p4 : Pos} {aS : Option Addr} {K : Kx} {F H : Hp}
theorem zip_fst {vs : List V} {l : List D} (h : vs.length = l.length) : (vs.zip l).map (·.1) = vs := by rw [List.map_fst_zip (Nat.le_of_eq h)]
theorem zip_snd {vs : List V} {l : List D} (h : vs.length = l.length) : (vs.zip l).map (·.2) = l := by rw [List.map_snd_zip (Nat.le_of_eq h.symm)]
theorem reps_of_pairs {ps : List (V × D)} (h : ∀ p ∈ ps, Rep K F p.1 p.2) : Reps K F (ps.map (·.1)) (ps.map (·.2)) := by
  induction ps with
  | nil => exact .nil
  | cons p ps ih => exact .cons (h p List.mem_cons_self) (ih fun q hq => h q (List.mem_cons_of_mem _ hq))
theorem pairs_rep {vs : List V} {l : List D} (r : Reps K F vs l) : ∀ p ∈ vs.zip l, Rep K F p.1 p.2 := by
  intro p hp
  obtain ⟨i, hi⟩ := List.mem_iff_getElem?.mp hp
  obtain ⟨h1, h2⟩ := List.getElem?_zip_eq_some.mp hi
  exact r.at i _ _ h1 h2
theorem srtOk (E : Eqs enc k) (S : Srts enc lt ok) (e : Ex F H) {ps : List (V × D)} {xs : List α} (h : ps.map (·.2) = xs.map enc) (hr : ∀ p ∈ ps, Rep K F p.1 p.2) (ho : xs.all ok = true ∨ xs.length ≤ 1) (hz : ps.length ≤ LIM) : SrtOk K.K H ps := by
  have mem : ∀ p ∈ ps, ∃ x ∈ xs, p.2 = enc x := fun p hp => by
    have : p.2 ∈ ps.map (·.2) := List.mem_map.mpr ⟨p, hp, rfl⟩
    rw [h] at this
    obtain ⟨x, hx, q⟩ := List.mem_map.mp this
    exact ⟨x, hx, q.symm⟩
  refine ⟨fun p hp => ?_, fun d hd d' hd' => ?_, ?_, fun p hp => ?_, hz⟩
  · obtain ⟨x, _, q⟩ := mem p hp
    exact (hr p hp).dp e (by rw [q]; exact E.lay x)
  · obtain ⟨p, hp, rfl⟩ := List.mem_map.mp hd
    obtain ⟨p', hp', rfl⟩ := List.mem_map.mp hd'
    obtain ⟨x, _, q⟩ := mem p hp
    obtain ⟨x', _, q'⟩ := mem p' hp'
    rw [q, q']
    exact S.al x x'
  · rcases ho with ho | ho
    · have ho' := List.all_eq_true.mp ho
      refine .inl ?_
      rcases S.so with so | so
      · refine .inl fun d hd => ?_
        obtain ⟨p, hp, rfl⟩ := List.mem_map.mp hd
        obtain ⟨x, hx, q⟩ := mem p hp
        rw [q]
        exact so x (ho' x hx)
      · refine .inr fun d hd => ?_
        obtain ⟨p, hp, rfl⟩ := List.mem_map.mp hd
        obtain ⟨x, hx, q⟩ := mem p hp
        rw [q]
        exact so x (ho' x hx)
    · have hl := congrArg List.length h
      rw [List.length_map, List.length_map] at hl
      refine .inr ⟨by omega, fun d hd => ?_⟩
      obtain ⟨p, hp, rfl⟩ := List.mem_map.mp hd
      obtain ⟨x, hx, q⟩ := mem p hp
      rw [q]
      exact S.nn x
  · obtain ⟨x, _, q⟩ := mem p hp
    rw [q]
    exact Nat.le_trans (E.dep x) E.few
theorem outS_data (S : Srts enc lt ok) {ps : List (V × D)} {xs : List α} (h : ps.map (·.2) = xs.map enc) : (outS ps).map (·.2) = (xs.mergeSort (leOf lt)).map enc := by
  unfold outS
  rw [List.map_mergeSort (r := dataLe false fun p : V × D => py p.2) (s := dataLe false fun d : D => py d) (f := Prod.snd) (fun p _ q _ => rfl), h, ← List.map_mergeSort (r := leOf lt) (s := dataLe false fun d : D => py d) (f := enc) fun x _ y _ => ?_]
  rw [dataLe_lt, S.lt]
  rfl
theorem outS_reps (S : Srts enc lt ok) {ps : List (V × D)} {xs : List α} (h : ps.map (·.2) = xs.map enc) (hr : ∀ p ∈ ps, Rep K F p.1 p.2) : Reps K F ((outS ps).map (·.1)) ((xs.mergeSort (leOf lt)).map enc) := by
  rw [← outS_data S h]
  exact reps_of_pairs fun p hp => hr p ((List.mergeSort_perm _ _).mem_iff.mp hp)
end
section
variable {c : Ct} {e a b : Expr} {es : List Expr} {ρ : List Sl} {d d1 d2 : D} {ds l : List D} {α β γ : Type} {enc : α → D} {eb : β → D} {m : M α} {pos p2 p3 p4 : Pos} {x y : Str} {aS : Option Addr} {K : Kx} {F F' H H' : Hp} {s : List D} {σ : L2.St} {B : Bs} {k : Nat}
theorem SrcAt.notAt {p : Addr} (h : SrcAt aS K s F H) (hp : H p = none) : aS ≠ some p := fun e => by
  exact (h.at' p e).2.off hp rfl
theorem evo_call {ta : TA} {r : List V → Hp → VK → Prop} {eA : α → List D} {eR : γ → List D} {f : α → M γ} (ha : EvAM K ta ρ eA m)
    (ho : ∀ (a : α) (s : List D) (P : γ → List D → Prop), Okk (f a s) P → ∃ g, P g s ∧ OpCL K r (eA a) (eR g)) : EvO K (tCB r ta) ρ eR (m >>= f) := fun aS B s F H σ R Q q =>
  ha aS B s F H σ R _ (q.bind.imp fun a s1 q1 v F1 H1 f1 hs1 r1 => by
    obtain ⟨g, q3, op⟩ := ho a s1 _ q1
    exact op aS F1 H1 v f1.fh r1 Q fun p ws F3 H3 f3 hp hF hH hz r3 => q3 p ws F3 H3 (f1.trans f3.fr) (hs1.stepP f3) (Fr.none_of f1 (hs1.notAt hp) hp) (hs1.notAt hp) hF hH hz r3)
theorem b_sorted : bootBuiltins "sorted" = some (.builtin "sorted") := by decide +kernel
variable [DecidableEq α] {lt : α → α → Bool} {ok : α → Bool}
end

/-! ### sorted(set(xs)), xs a list of tuples of ints -/
theorem perm_map_inv {α β : Type} {f : α → β} {l1 l2 : List β} (h : l1.Perm l2) : ∀ L : List α, l2 = L.map f → ∃ L' : List α, L'.Perm L ∧ l1 = L'.map f := by
  induction h with
  | nil => intro L e; exact ⟨[], by have : L = [] := List.map_eq_nil_iff.mp e.symm; rw [this], rfl⟩
  | cons x _ ih =>
    intro L e
    cases L with
    | nil => cases e
    | cons z L =>
      rw [List.map_cons] at e
      injection e with e1 e2
      obtain ⟨L', p, q⟩ := ih L e2
      exact ⟨z :: L', p.cons z, by rw [List.map_cons, ← e1, ← q]⟩
  | swap x y l =>
    intro L e
    cases L with
    | nil => cases e
    | cons z L =>
      cases L with
      | nil => cases e
      | cons z2 L =>
        rw [List.map_cons, List.map_cons] at e
        injection e with e1 e2
        injection e2 with e2 e3
        exact ⟨z2 :: z :: L, .swap _ _ _, by rw [List.map_cons, List.map_cons, e1, e2, e3]⟩
  | trans _ _ ih1 ih2 =>
    intro L e
    obtain ⟨L2, p2, q2⟩ := ih2 L e
    obtain ⟨L1, p1, q1⟩ := ih1 L2 q2
    exact ⟨L1, p1.trans p2, q1⟩
def rSortS (K : PySem.W.Frag) (P : Program) (w : World) : List V → Hp → VK → Prop := fun xs H Q => ∃ a L, xs = [.ref a] ∧ H a = some (SetTO P w a L) ∧ (∀ p ∈ L, SqT K H p.1 (p.2.map V.int)) ∧ ((L.map (·.2)).Nodup → L.length ≤ LIM →
  ∀ L' : List (Addr × List Int), L'.Perm L → SrtOk K H (L'.map fun p => (V.ref p.1, eT D.int p.2)) ∧ ∀ p, H p = none → Q (.ref p) (upd H p (.lst ((outS (L'.map fun p => (V.ref p.1, eT D.int p.2))).map (·.1)))))
theorem cr_sortS {X : Cx} (hc : X.calm = true) (hu : X.A.units + 65 < cLine) : CallR X (.builtin "sorted") (rSortS X.K X.prog X.w) := by
  intro pins s σ H xs us Q I r h
  obtain ⟨a, L, rfl, ha, hk, q⟩ := h
  rw [Vals.ref1 r]
  have R0 : SetT0 X.prog X.w s.heap a L := (I.hok a _ ha).1
  obtain ⟨es, ep, t, R⟩ := R0.full fun p hp => I.isT (hk p hp)
  obtain ⟨o, ho, hex, hd⟩ := R.ob
  have hfew := R.few
  have hsz := R.size
  have hes : es.toList.map (·.2) = L.map fun q => Value.ref q.1 := by
    rw [R.rows]
    unfold L2.rowsOf
    rw [List.map_map] <;> rfl
  have q' := q R.nd (by show _ ≤ 1000000; omega)
  refine sort_run I hu (C := fun vs => vs.Perm (L.map fun q => Value.ref q.1)) (fun E Q' k => ?_) fun vs hp => ?_
  · exact collect_set (A := X.A.in1) (I.ok.hd hc) ⟨o, ho, hex.1, hd⟩ R.fits (by unfold scanBound; omega) R.tab.ris R.led fun s1 vs k1 hz g1 o1 pm => k s1 vs k1 hz g1 o1 (by rw [← hes]; exact pm)
  · obtain ⟨L', pl, rfl⟩ := perm_map_inv hp L rfl
    obtain ⟨h1, h2⟩ := q' L' pl
    refine ⟨L'.map fun p => (V.ref p.1, eT D.int p.2), ?_, h1, h2⟩
    rw [List.map_map]
    exact vals_of_refs L'
section
variable {c : Ct} {e a b : Expr} {ρ : List Sl} {pos p2 p3 p4 : Pos} {aS : Option Addr} {K : Kx} {F F' H H' : Hp} {s : List D} {σ : L2.St} {B : Bs}
abbrev ltT : List Int → List Int → Bool := ltL ltI
theorem Srts.tupI : Srts (eT D.int) ltT okL := Srts.tup Srts.int Eqs.int
theorem Eqs.tupI : Eqs (eT D.int) 1 := Eqs.tup Eqs.int (by decide)
theorem ltI_total : ∀ x y : Int, ltI x y = false → ltI y x = false → x = y := fun x y h h' => by
  have h1 := of_decide_eq_false h
  have h2 := of_decide_eq_false h'
  omega
theorem ltL_total {α : Type} [DecidableEq α] {lt : α → α → Bool} (ht : ∀ x y, lt x y = false → lt y x = false → x = y) : ∀ x y : List α, ltL lt x y = false → ltL lt y x = false → x = y
  | [], [], _, _ => rfl
  | [], _ :: _, h, _ => by cases h
  | _ :: _, [], _, h => by cases h
  | x :: xs, y :: ys, h, h' => by
    have e1 : (if x = y then ltL lt xs ys else lt x y) = false := h
    have e2 : (if y = x then ltL lt ys xs else lt y x) = false := h'
    by_cases q : x = y
    · subst q
      rw [if_pos rfl] at e1 e2
      rw [ltL_total ht xs ys e1 e2]
    · rw [if_neg q] at e1
      rw [if_neg (Ne.symm q)] at e2
      exact absurd (ht x y e1 e2) q
/-- sorted lists of the same items are one -/
theorem sort_uniq {α : Type} [DecidableEq α] {enc : α → D} {lt : α → α → Bool} {ok : α → Bool} (S : Srts enc lt ok) (ht : ∀ x y, lt x y = false → lt y x = false → x = y) {xs ys : List α} (h : xs.Perm ys) : xs.mergeSort (leOf lt) = ys.mergeSort (leOf lt) := by
  have TL := sortLe_total (listOrd itemOrd) false (fun x : α => keyToks (py (enc x)))
  have e : sortLe (listOrd itemOrd) false (fun x : α => keyToks (py (enc x))) = leOf lt := by
    funext x y
    show (!dataLt (py (enc y)) (py (enc x))) = _
    rw [S.lt]
    rfl
  rw [e] at TL
  have tt : ∀ a b : α, (leOf lt a b || leOf lt b a) = true := fun a b => by rw [Bool.or_eq_true]; exact TL.total a b
  refine List.Perm.eq_of_pairwise (le := fun x y => leOf lt x y = true) (fun x y _ _ h1 h2 => ?_) (List.pairwise_mergeSort TL.trans tt _) (List.pairwise_mergeSort TL.trans tt _) (((List.mergeSort_perm _ _).trans h).trans (List.mergeSort_perm _ _).symm)
  unfold leOf at h1 h2
  exact ht x y (by simpa using h2) (by simpa using h1)
theorem tups_of {vs : List V} : ∀ {xs : List (List Int)}, Reps K F vs (xs.map (eT D.int)) → ∃ ks : List (Addr × List Int), vs = ks.map (fun p => V.ref p.1) ∧ ks.map (·.2) = xs ∧ ∀ p ∈ ks, F p.1 = some (.tup (p.2.map V.int)) ∧ p.2.length ≤ LIM := by
  induction vs with
  | nil =>
    intro xs r
    cases xs with
    | nil => exact ⟨[], rfl, rfl, fun p hp => nomatch hp⟩
    | cons => cases r
  | cons v vs ih =>
    intro xs r
    cases xs with
    | nil => cases r
    | cons x xs =>
      cases r with
      | cons r rs =>
        obtain ⟨ks, h1, h2, h3⟩ := ih rs
        obtain ⟨a, ws, h4, h5, h6, h7⟩ := r.of_tup
        have h8 := h7.ints
        subst h8
        rw [List.length_map] at h6
        refine ⟨(a, x) :: ks, by rw [h1, h4]; rfl, by rw [← h2]; rfl, fun p hp => ?_⟩
        rcases List.mem_cons.mp hp with rfl | hp
        · exact ⟨h5, h6⟩
        · exact h3 p hp
theorem tupI_rep {a : Addr} {ns : List Int} (h : F a = some (.tup (ns.map V.int))) (hz : ns.length ≤ LIM) : Rep K F (.ref a) (eT D.int ns) := Rep.mk_tup h (by rw [List.length_map]; exact hz) (Reps.of_ints ns)
theorem nodup_dups {α : Type} [BEq α] [LawfulBEq α] (l : List α) : l.eraseDups.Nodup := by
  induction hn : l.length using Nat.strongRecOn generalizing l with
  | ind n ih =>
    cases l with
    | nil => simp
    | cons a l =>
      rw [List.eraseDups_cons, List.nodup_cons]
      refine ⟨fun h => ?_, ih _ ?_ _ rfl⟩
      · rw [List.mem_eraseDups, List.mem_filter] at h
        simp at h
      · rw [← hn]
        exact Nat.lt_succ_of_le (List.length_filter_le _ _)
def setSort (xs : List (List Int)) : M (List (List Int)) := if xs.length < 64 ∧ xs.all okL = true then pure (xs.eraseDups.mergeSort (leOf ltT)) else stuck
theorem do_sortSetT [Cool c] {mx : M (List (List Int))} (hg : GI c "sorted") (hm : c.mg "sorted" = none) (hg2 : GI c "set") (hm2 : c.mg "set" = none) (ha : DN c a ρ (eL (eT D.int)) mx) (hs : NoStar a := by intro _ _; rfl) :
    DO c (.Call (.Name "sorted" p2) [.Call (.Name "set" p3) [a] [] p4] [] pos) ρ (fun l => l.map (eT D.int)) (mx >>= setSort) := by
  obtain ⟨t, q1, q2⟩ := ha
  refine ⟨tCB (rSortS c.K.K c.g.P c.g.w) (tCons (tCB (rSetOfT c.K.K c.g.P c.g.w) (tCons t tNil)) tNil), fun X I => ?_, fun aS B s F H σ R Q q => ?_⟩
  · rw [← I.K, ← I.P, ← I.w]
    exact pe_callB (cr_sortS (I.calm Cool.h) (units65 I)) (gl_of I hg) (by rw [I.mg]; exact hm) b_sorted (pa_cons (pe_callTy (cr_setOfT (I.calm Cool.h) (Nat.lt_of_succ_lt (units65 I))) (gl_of I hg2) (by rw [I.mg]; exact hm2) (by decide +kernel) (pa_cons (q1 X I) pa_nil (hs _ _)) (by decide) (by decide) (hs _ _) (by rfl)) pa_nil (by rfl)) (by decide) (by decide) (by rfl) (by rfl)
  · refine q2 aS B s F H σ R _ (q.bind.imp fun xs s1 q1 v F1 H1 f hs1 r => ?_)
    obtain ⟨p, vs, rfl, hsq, hz, rs⟩ := r.list f.fh rfl
    obtain ⟨ks, rfl, rfl, hk⟩ := tups_of rs
    have q2 := q1
    unfold setSort at q2
    split at q2
    case isFalse => cases q2
    rename_i hc
    rw [List.length_map] at hc hz
    refine ⟨p, ks, rfl, hsq, fun z hz => SqT.of (f.fh _ _ (hk z hz).1), hc.1, fun a L ha hsub hall => ?_⟩
    have e2 : Ex F1 (upd H1 a (SetTO c.g.P c.g.w a L)) := fun b o hb => by
      have := f.fh _ _ hb
      rw [upd_ne (ne_of_none this ha)]
      exact this
    refine ⟨a, L, rfl, upd_same, fun z hz => SqT.of (e2 _ _ (hk z (hsub z hz)).1), fun nd hl L' pl => ?_⟩
    have hm : (L'.map fun p : Addr × List Int => (V.ref p.1, eT D.int p.2)).map (·.2) = (L'.map (·.2)).map (eT D.int) := by rw [List.map_map, List.map_map]; rfl
    have hr : ∀ z ∈ L'.map fun p : Addr × List Int => (V.ref p.1, eT D.int p.2), Rep c.K F1 z.1 z.2 := fun z hz => by
      obtain ⟨w, hw, rfl⟩ := List.mem_map.mp hz
      obtain ⟨h5, h6⟩ := hk w (hsub w (pl.mem_iff.mp hw))
      exact tupI_rep h5 h6
    have ho : (L'.map (·.2)).all okL = true := List.all_eq_true.mpr fun z hz => by
      obtain ⟨w, hw, rfl⟩ := List.mem_map.mp hz
      exact List.all_eq_true.mp hc.2 _ (List.mem_map.mpr ⟨w, hsub w (pl.mem_iff.mp hw), rfl⟩)
    have hl2 : (L'.map fun p : Addr × List Int => (V.ref p.1, eT D.int p.2)).length ≤ LIM := by rw [List.length_map, pl.length_eq]; exact hl
    refine ⟨srtOk Eqs.tupI Srts.tupI e2 hm hr (.inl ho) hl2, fun p' hp' => ?_⟩
    have hp : (L'.map (·.2)).Perm (ks.map (·.2)).eraseDups := (List.perm_ext_iff_of_nodup ((pl.map (·.2)).nodup_iff.mpr nd) (nodup_dups _)).mpr fun z => by
      rw [List.mem_eraseDups]
      refine ⟨fun h => ?_, fun h => ?_⟩
      · obtain ⟨w, hw, rfl⟩ := List.mem_map.mp h
        exact List.mem_map.mpr ⟨w, hsub w (pl.mem_iff.mp hw), rfl⟩
      · obtain ⟨w, hw, rfl⟩ := List.mem_map.mp h
        exact ((pl.map (·.2)).mem_iff).mpr (hall w hw)
    have eu := sort_uniq Srts.tupI (ltL_total ltI_total) hp
    have hn1 : H1 p' = none := by
      by_cases z : p' = a
      · rw [z]; exact ha
      · rw [upd_ne z] at hp'; exact hp'
    have q3 : Okk ((pure ((ks.map (·.2)).eraseDups.mergeSort (leOf ltT)) : M (List (List Int))) s1) _ := q2
    refine q3 p' _ F1 _ (f.trans ⟨Ex.refl _, fun b o hb => ?_, fun b o hb hns hh _ => ⟨?_, .inl hb⟩, fun b q => dm_upd b (dm_upd b q)⟩) ⟨tabs_new (tabs_new hs1.tb ha) hp', hs1.nf, fun b hb => ?_⟩ (Fr.none_of f (hs1.notAt hn1) hn1) (hs1.notAt hn1) (Ex.none_of f.fh hn1) upd_same (by rw [List.length_map, List.length_mergeSort, ← hp.length_eq, List.length_map, pl.length_eq]; exact hl) (by rw [← eu]; exact outS_reps Srts.tupI hm hr)
    · have := e2 _ _ hb
      rw [upd_ne (ne_of_none this hp')]
      exact this
    · rw [upd_ne (ne_of_none hh hn1), upd_ne (ne_of_none hh ha)]
      exact hh
    · obtain ⟨h4, h5⟩ := hs1.at' b hb
      exact ⟨h4, h5.loc (by rw [upd_ne (h5.off hn1), upd_ne (h5.off ha)]) (Ex.refl _)⟩
end
end Dl

/-! Dl, part M: the source; its begin. -/
namespace Dl
open PySem PySem.Spec PyProof.Rows L2
open Evl (Ex)
def getD (k : Nat) : M D := fun s => if isDs s then .stuck else match s[k]? with
  | some d => .ok d s
  | none => .stuck
def getI (k : Nat) : M Int := fun s => match s[k]? with
  | some (.int i) => .ok i s
  | _ => .stuck
def putD (k : Nat) (d : D) : M Unit := fun s => if k < s.length ∧ isDs s = false ∧ isDs (s.set k d) = false then .ok () (s.set k d) else .stuck
/-- with a source of its own -/
def withS {γ : Type} (l : List D) (m : M γ) : M γ := fun s => if s = [] ∧ (l ≠ [] ∧ isDs l = false) ∧ l.length ≤ LIM then (match m l with
  | .ok g _ => .ok g s
  | .stuck => .stuck) else .stuck
theorem Okk.getD {k : Nat} {s : List D} {P : D → List D → Prop} (h : Okk (getD k s) P) : isDs s = false ∧ ∃ d, s[k]? = some d ∧ P d s := by
  unfold Dl.getD at h
  split at h
  · cases h
  · rename_i q0
    refine ⟨Bool.not_eq_true _ ▸ q0, ?_⟩
    split at h
    · rename_i d q; exact ⟨d, q, h⟩
    · cases h
theorem ds_int {k : Nat} {s : List D} {i : Int} (h : s[k]? = some (.int i)) : isDs s = false := by
  match s, h with
  | [], _ => rfl
  | [.int j], _ => rfl
  | [.non], _ | [.bl _], _ | [.str _], _ | [.lst _], _ | [.tup _], _ | [.tpd _], _ | [.obj _ _], _ | [.scr _], _ => rfl
  | [.dct l], h => cases k <;> simp at h
  | [.dtt l], h => cases k <;> simp at h
  | x :: y :: l, _ => cases x <;> rfl
theorem Okk.getI {k : Nat} {s : List D} {P : Int → List D → Prop} (h : Okk (getI k s) P) : ∃ d, s[k]? = some (.int d) ∧ P d s := by
  unfold Dl.getI at h
  split at h
  · rename_i d q; exact ⟨d, q, h⟩
  · cases h
theorem Okk.putD {k : Nat} {d : D} {s : List D} {P : Unit → List D → Prop} (h : Okk (putD k d s) P) : (k < s.length ∧ isDs s = false ∧ isDs (s.set k d) = false) ∧ P () (s.set k d) := by
  unfold Dl.putD at h
  split at h
  · rename_i q; exact ⟨q, h⟩
  · cases h
theorem Okk.withS {γ : Type} {l s : List D} {m : M γ} {P : γ → List D → Prop} (h : Okk (withS l m s) P) : s = [] ∧ (l ≠ [] ∧ isDs l = false) ∧ Okk (m l) fun g _ => P g s := by
  unfold Dl.withS at h
  split at h
  · rename_i hc
    refine ⟨hc.1, hc.2.1, ?_⟩
    split at h
    · rename_i g s' q; rw [q]; exact h
    · cases h
  · cases h
section
variable {c : Ct} {e a b : Expr} {es : List Expr} {sts rest : List Stmt} {ρ ρ1 : List Sl} {d d1 d2 : D} {ds l : List D} {α β γ δ A R : Type} {enc : α → D} {eb : β → D} {m : M α} {pos p2 p3 p4 p5 p6 : Pos} {x y : Str} {aS : Option Addr} {K : Kx} {F F' H H' : Hp} {s : List D} {σ : L2.St} {B : Bs} {out : γ → Oc}
theorem REnv.srcSl {i : Nat} (R : REnv aS K B s F H σ ρ) (h : ρ[i]? = some .sr) (hd : isDs s = false) : ∃ p vs, σ[i]? = some (some (.ref p)) ∧ aS = some p ∧ F p = none ∧ (0 < s.length ∧ s.length ≤ LIM) ∧ H p = some (.lst vs) ∧ Reps K F vs s := by
  obtain ⟨_, _, e, ⟨p, rfl, hp⟩, _⟩ := R.slot h
  obtain ⟨h1, h2⟩ := R.src.at' p hp
  rcases h2 with ⟨h0, h2, vs, h3, h4⟩ | ⟨l, kvs, h0, _⟩ | ⟨l, kvs, h0, _⟩
  · exact ⟨p, vs, e, hp, h1, h2, h3, h4⟩
  · rw [h0] at hd; cases hd
  · rw [h0] at hd; cases hd
theorem atI_nat {α : Type} {l : List α} {k : Nat} {y : α} (h : l[k]? = some y) : L2.atI l (k : Int) = some y := by
  have hk := (List.getElem?_eq_some_iff.mp h).1
  unfold L2.atI ixN
  rw [if_pos (Int.natCast_nonneg k), if_pos (by omega), Int.toNat_natCast]
  exact h
theorem dm_srcD (i k : Nat) (hN : c.N[i]? = some x) (hv : Vis c.sc x) (h0 : ρ[i]? = some .sr) (hd : (x == ("__debug__" : Str)) = false := by decide) (hcd : (x == ("__classdict__" : Str)) = false := by decide) : DM c (.Subscript (.Name x p2) (.Constant (.int (k : Int)) 0 p3) pos) ρ eId (getD k) := by
  refine ⟨_, fun X I => pe_ix (r := rIxL c.K.K) (by rw [← I.K]; exact ix_list) (pe_var (i := i) (by rw [I.N]; exact hN) (by rw [I.sc]; exact hv) hd hcd) pe_int (by intro _ _; rfl), fun aS B s F H σ R Q q => ?_⟩
  obtain ⟨h5, d, h1, h2⟩ := q.getD
  obtain ⟨p, vs, e1, e2, hF, hz, hH, r⟩ := R.srcSl h0 h5
  obtain ⟨v, h3, h4⟩ := r.get h1
  exact ⟨_, e1, p, vs, _, v, rfl, rfl, SqL.of hH, atI_nat h3, h2 v F H (Fr.refl R.ex) R.src h4⟩
theorem dm_srcI (i k : Nat) (hN : c.N[i]? = some x) (hv : Vis c.sc x) (h0 : ρ[i]? = some .sr) (hd : (x == ("__debug__" : Str)) = false := by decide) (hcd : (x == ("__classdict__" : Str)) = false := by decide) : DM c (.Subscript (.Name x p2) (.Constant (.int (k : Int)) 0 p3) pos) ρ D.int (getI k) := by
  refine ⟨_, fun X I => pe_ix (r := rIxL c.K.K) (by rw [← I.K]; exact ix_list) (pe_var (i := i) (by rw [I.N]; exact hN) (by rw [I.sc]; exact hv) hd hcd) pe_int (by intro _ _; rfl), fun aS B s F H σ R Q q => ?_⟩
  obtain ⟨d, h1, h2⟩ := q.getI
  obtain ⟨p, vs, e1, e2, hF, hz, hH, r⟩ := R.srcSl h0 (ds_int h1)
  obtain ⟨v, h3, h4⟩ := r.get h1
  exact ⟨_, e1, p, vs, _, v, rfl, rfl, SqL.of hH, atI_nat h3, h2 v F H (Fr.refl R.ex) R.src h4⟩
/-- x[k] = e, x the source -/
theorem ds_srcSet (i k : Nat) {me : M α} {n : M γ} (hN : c.N[i]? = some x) (hv : Vis c.sc x) (h0 : ρ[i]? = some .sr) (he : DM c e ρ enc me) (hr : DS c rest ρ out n) (hd : (x == ("__debug__" : Str)) = false := by decide) (hcd : (x == ("__classdict__" : Str)) = false := by decide)
    (ha : ∀ env v, assign (.Subscript (.Name x p2) (.Constant (.int (k : Int)) 0 p4) p3) env v = (do
      let ov ← holding [v] (eval (.Name x p2) env)
      let iv ← holding [v, ov] (eval (.Constant (.int (k : Int)) 0 p4) env)
      standAt p3
      holding [v, ov, iv] (setItem ov iv v)
      release [v, ov, iv] []) := by intro _ _; rfl)
    (hs : ∀ env, swapsWithSole [.Subscript (.Name x p2) (.Constant (.int (k : Int)) 0 p4) p3] e pos.line env = pure false := by intro _; rfl) (hw : ∀ env, swappedStores [.Subscript (.Name x p2) (.Constant (.int (k : Int)) 0 p4) p3] e env = pure none := by intro _; rfl) (h1 : ∀ env, (assignEach [.Subscript (.Name x p2) (.Constant (.int (k : Int)) 0 p4) p3] env).map (·.2) = [assign (.Subscript (.Name x p2) (.Constant (.int (k : Int)) 0 p4) p3) env] := by intro _; rfl) :
    DS c (.Assign [.Subscript (.Name x p2) (.Constant (.int (k : Int)) 0 p4) p3] e pos :: rest) ρ out (me >>= fun y => putD k (enc y) >>= fun _ => n) := by
  obtain ⟨t, a1, a2⟩ := he
  obtain ⟨w, c1, c2⟩ := hr
  refine ⟨_, fun X I => pss_cons (ps_asg (a1 X I) (pg_sub (pe_var (i := i) (by rw [I.N]; exact hN) (by rw [I.sc]; exact hv) hd hcd) pe_int set_list (ha _)) (hs _) (hw _) (h1 _)) (c1 X I), fun aS B s F H σ R E q => a2 aS B s F H σ R _ (q.bind.imp fun y s1 q1 v F1 H1 f1 hs1 r1 => ?_)⟩
  have R1 := R.step f1 hs1
  obtain ⟨⟨hk, hd1, hd2⟩, q2⟩ := q1.bind.putD
  obtain ⟨p, vs, e1, e2, hF, hz, hH, r⟩ := R1.srcSl h0 hd1
  have hl : vs.length = s1.length := r.length
  have hix : ixN vs.length (k : Int) = some k := by
    unfold ixN
    rw [if_pos (Int.natCast_nonneg k), if_pos (by omega), Int.toNat_natCast]
  refine ⟨_, e1, p, vs, _, k, rfl, rfl, hH, hix, c2 aS B _ F1 _ σ (R1.step (s' := s1.set k (enc y)) ⟨Ex.refl _, fun b o hb => ?_, fun b o hb hns hh _ => ⟨?_, .inl hb⟩, dm_upd⟩ ⟨tabs_upd hs1.tb (fun u e => by rw [hH] at e; cases e; rfl), hs1.nf, fun b hb => ?_⟩) E q2⟩
  · rw [upd_ne (ne_of_none hb hF)]
    exact f1.fh _ _ hb
  · rw [upd_ne (fun z => hns (by rw [e2, z]))]
    exact hh
  · have : b = p := by rw [e2] at hb; exact (Option.some.inj hb).symm
    subst this
    exact ⟨hF, .inl ⟨hd2, by rw [List.length_set]; exact hz, _, upd_same, Paired.set' r1 k r⟩⟩
/-- no slot holds a source -/
def noSr (ρ : List Sl) : Prop := ∀ i : Nat, ρ[i]? ≠ some Sl.sr
def OcNo : Oc → Prop
  | .nx ρ => noSr ρ
  | .bk ρ => noSr ρ
  | .xr _ _ ρ => noSr ρ
  | _ => True
theorem Free.src {aS' : Option Addr} {p : Addr} (f : Free aS B F p) (h : aS' ≠ some p) : Free aS' B F p := ⟨f.nb, h, f.nF⟩
theorem SlOk.src {aS' : Option Addr} {fp : List Addr} {x : Option V} {y : Sl} (hy : y ≠ .sr) (h : SlOk aS K B F H fp x y) : SlOk aS' K B F H fp x y := by
  cases y with
  | sr => exact absurd rfl hy
  | _ => exact h
theorem REnv.leave {p : Addr} {s' : List D} (R : REnv (some p) K B s' F H σ ρ) (hp : B.h p = none) (hn : noSr ρ) (h0 : aS = none) : REnv aS K B s F H σ ρ := by
  subst h0
  obtain ⟨φ, k1, k2, k3⟩ := R.sl
  refine ⟨⟨R.fr.ff, R.fr.fh, fun a o h1 h2 h3 => R.fr.kq a o h1 (fun z => ?_) h3, R.fr.dm⟩, R.kn, ⟨R.src.tb, R.src.nf, fun a z => nomatch z⟩, R.len, φ, fun i q hq => ⟨(k1 i q hq).1.src (fun z => nomatch z), (k1 i q hq).2⟩, k2, fun i x y h1 h2 => (k3 i x y h1 h2).src fun z => hn i (by rw [h2, z])⟩
  have : p = a := Option.some.inj z
  rw [this, h3] at hp
  cases hp
theorem noSr_of {ρ : List Sl} (h : (ρ.all fun y => match y with | .sr => false | _ => true) = true) : noSr ρ := fun i e => by
  have := List.all_eq_true.mp h _ (List.mem_of_getElem? e)
  cases this
theorem Fr.leave {p : Addr} (f : Fr (some p) F H F' H') (hp : H p = none) : Fr none F H F' H' := ⟨f.ff, f.fh, fun a o h1 _ h3 => f.kq a o h1 (fun z => by
  have : p = a := Option.some.inj z
  rw [this, h3] at hp
  cases hp) h3, f.dm⟩
/-- x = a new list, the source from here on -/
theorem ds_adopt (i : Nat) {eA : α → List D} {k : α → M γ} (hN : c.N[i]? = some x) (hx : Loc c.sc x) (hf : FnL c x) (he : DO c e ρ eA m) (hr : ∀ a, DS c rest (ρ.set i .sr) out (k a)) (h1 : noSr (ρ.set i .no)) (h2 : ∀ g, OcNo (out g)) (hs : ∀ env, swapsWith e (some (.Name x p2)) pos.line env = pure false := by intro _; rfl) :
    DS c (.Assign [.Name x p2] e pos :: rest) ρ out (m >>= fun a => withS (eA a) (k a)) := by
  obtain ⟨t, a1, a2⟩ := he
  obtain ⟨u, b1, b2⟩ := DS.all (f := fun _ => ρ.set i .sr) hr
  refine ⟨_, fun X I => pss_cons (ps_set I.nd (by rw [I.N]; exact hN) (loc_of I hx) (a1 X I) (hs _) (fnl_of I hf)) (b1 X I), fun aS B s F H σ R E q => a2 aS B s F H σ R _ (q.bind.imp fun a s1 q1 p vs F1 H1 f1 hs1 hp ns hF hH hz r => ?_)⟩
  obtain ⟨rfl, hl, q2⟩ := q1.withS
  have e0 : aS = none := by
    cases aS with
    | none => rfl
    | some a0 =>
      exact absurd rfl (hs1.at' a0 rfl).2.ne
  subst e0
  have nb := R.stands hp
  have hsp : SrcAt (some p) c.K (eA a) F1 H1 := ⟨hs1.tb, hs1.nf, fun b hb => by
    have : p = b := Option.some.inj hb
    subst this
    exact ⟨hF, .inl ⟨hl.2, ⟨List.length_pos_iff.mpr hl.1, hz⟩, vs, hH, r⟩⟩⟩
  have R2 : REnv (some p) c.K B (eA a) F1 H1 (σ.set i (some (.ref p))) (ρ.set i .sr) := by
    obtain ⟨φ, k1, k2, k3⟩ := R.sl
    have kf : ∀ j q, q ∈ φ j → ∃ o, H q = some o ∧ NT o ∧ H1 q = some o ∧ F1 q = none := fun j q hq => by
      obtain ⟨fr, o, ho, nt⟩ := k1 j q hq
      obtain ⟨h4, h5⟩ := f1.kp q o fr.nF (fun z => nomatch z) ho nt
      exact ⟨o, ho, nt, h4, h5⟩
    have R1 := R.step f1 hs1
    refine ⟨⟨R1.fr.ff, R1.fr.fh, fun a o h1 _ h3 => R1.fr.kq a o h1 (fun z => nomatch z) h3, R1.fr.dm⟩, R1.kn, hsp, by rw [List.length_set, List.length_set, R.len], φ, fun j q hq => ⟨⟨(k1 j q hq).1.nb, fun z => ?_, (kf j q hq).choose_spec.2.2.2⟩, _, (kf j q hq).choose_spec.2.2.1, (kf j q hq).choose_spec.2.1⟩, k2, fun j x y e1 e2 => ?_⟩
    · obtain ⟨o, ho, _⟩ := kf j q hq
      have : p = q := Option.some.inj z
      rw [← this, hp] at ho
      cases ho
    · rcases set_at e1 with ⟨e, rfl, _⟩ | ⟨e, e1⟩
      · rcases set_at e2 with ⟨_, rfl, _⟩ | ⟨e', _⟩
        · exact ⟨p, rfl, rfl⟩
        · exact absurd e e'
      · rcases set_at e2 with ⟨e', _⟩ | ⟨_, e2⟩
        · exact absurd e' e
        · refine ((k3 j x y e1 e2).loc (fun q hq => ?_) f1.ff).src fun z => h1 j (by rw [List.getElem?_set, if_neg e, e2, z])
          obtain ⟨o, ho, _, h5, _⟩ := kf j q hq
          rw [ho, h5]
  refine b2 a (some p) B (eA a) F1 H1 _ R2 E (q2.imp fun g s2 q3 => ?_)
  have hno := h2 g
  cases hg : out g with
  | nx ρ' =>
    rw [hg] at q3 hno
    exact fun σ' F' H' R' => q3 σ' F' H' (R'.leave nb hno rfl)
  | bk ρ' =>
    rw [hg] at q3 hno
    exact fun σ' F' H' R' => q3 σ' F' H' (R'.leave nb hno rfl)
  | rt d =>
    rw [hg] at q3
    exact fun v F' H' f' hs' r' => q3 v F' H' (f'.leave nb) ⟨hs'.tb, hs'.nf, fun a z => nomatch z⟩ r'
  | ro l =>
    rw [hg] at q3
    exact fun p2 vs F' H' f' hs' hb hns => q3 p2 vs F' H' (f'.leave nb) ⟨hs'.tb, hs'.nf, fun a z => nomatch z⟩ hb (fun z => nomatch z)
  | xr W A ρ' =>
    rw [hg] at q3 hno
    exact fun cls d σ' F' H' R' hA => q3 cls d σ' F' H' (R'.leave nb hno rfl) hA
  | rw o =>
    rw [hg] at q3
    exact fun p2 fp F' H' f' hs' hb r => q3 p2 fp F' H' (f'.leave nb) ⟨hs'.tb, hs'.nf, fun a z => nomatch z⟩ hb r
end
end Dl

/-! Dl, part N: t[::-1], {}; objects of one's own. -/
namespace Dl
open PySem PySem.Spec PyProof.Rows L2
open Evl (Ex)
section
variable {prog : Program} {w : World} {A : Around} {E : Value → Shared → Prop} {s : Shared}
theorem rev_places (n : Nat) : Builtin.Slice.sliceAdjust none none (-1) (n : Int) = ((n : Int) - 1, -1) ∧ Builtin.Slice.slicePlaces ((n : Int) - 1) (-1) (-1) = n := by
  refine ⟨rfl, ?_⟩
  unfold Builtin.Slice.slicePlaces
  rw [if_neg (by decide)]
  split
  · rw [show (-(-1) : Int) = 1 from rfl, Int.ediv_one]
    omega
  · omega
theorem rev_pick (xs : Array Value) : ((List.range xs.size).filterMap fun (m : Nat) => xs[((xs.size : Int) - 1 + (m : Int) * (-1)).toNat]?).toArray = xs.toList.reverse.toArray := by
  congr 1
  have e : ∀ n, n ≤ xs.size → (List.range n).filterMap (fun (m : Nat) => xs[((xs.size : Int) - 1 + (m : Int) * (-1)).toNat]?) = xs.toList.reverse.take n := by
    intro n
    induction n with
    | zero => intro _; rfl
    | succ n ih =>
      intro h
      have e1 : ((xs.size : Int) - 1 + (n : Int) * (-1)).toNat = xs.size - 1 - n := by omega
      have h3 : xs[xs.size - 1 - n]? = some (xs[xs.size - 1 - n]'(by omega)) := Array.getElem?_eq_getElem (by omega)
      rw [List.range_succ, List.filterMap_append, ih (by omega), List.take_add_one]
      congr 1
      rw [List.filterMap_cons, List.filterMap_nil, e1, h3, List.getElem?_reverse (by rw [Array.length_toList]; omega), Array.length_toList, Array.getElem?_toList, h3]
      rfl
  rw [e xs.size (Nat.le_refl _), List.take_of_length_le (by rw [List.length_reverse, Array.length_toList]; exact Nat.le_refl _)]
theorem getItem_tuple_rev {t sl : Addr} {items : Array Value} {vl vu vs : Value} {Q : Value → Shared → Prop} (ht : IsTup s.heap t items) (hs : s.heap.IsSliceOf sl vl vu vs) (pl : IsPart vl none) (pu : IsPart vu none) (ps : IsPart vs (some (-1)))
    (h : Q (.ref s.heap.objs.size) { s with heap := s.heap.push { cls := .type "tuple", data := .seq items.toList.reverse.toArray } }) (hsz : items.size ≤ sizeLine) : wpAny (model prog w) A (getItem (.ref t) (.ref sl)) Q E s := by
  have hz : sizeOk (.seq items.toList.reverse.toArray) := by
    show items.toList.reverse.toArray.size ≤ sizeLine
    rw [List.size_toArray, List.length_reverse, Array.length_toList]
    exact hsz
  obtain ⟨os, hos, hcs, hds⟩ := id hs
  have tS : s.TypeIs (.ref sl) "slice" := ⟨os, hos, hcs⟩
  unfold getItem
  try with_reducible refine wpAny_holding ?_
  first | refine wpAny_bind (wpAny_pure ?_) | skip
  refine wpAny_bind (wpAny_sequenceKey ht.typeIs (by decide) (wpAny_bind (wpAny_callSpecial?_slot (name := Str.ofString "__getitem__") ht.typeIs PyProof.Rows.slot_tuple_getitem (wpAny_call_entry PyProof.Rows.slot_tuple_getitem ht.typeIs entry_tuple_getitem ?_ (args_tuple_getitem _ _)))))
  show wpAny _ _ (Builtin.Tuple.tupleItemsOf (.ref t) >>= _) _ _ s
  refine wpAny_bind (PyProof.Rows.tupleItemsOf_ ht (wpAny_bind (wpAny_typeOf tS ?_)))
  rw [if_pos (by decide)]
  obtain ⟨p1, p2⟩ := rev_places items.size
  refine wpAny_bind (?_ : wpAny _ _ (Builtin.Slice.sliceApplied (.ref sl) (pure (items.size : Int))) _ _ s)
  unfold Builtin.Slice.sliceApplied Builtin.Slice.sliceFields
  refine wpAny_bind (wpAny_bind (wpAny_field hos hds (x := vl) rfl (wpAny_bind (wpAny_field hos hds (x := vu) rfl (wpAny_bind (wpAny_field hos hds (x := vs) rfl (wpAny_pure ?_)))))))
  refine wpAny_bind (HT.slicePart_ ps ?_)
  show wpAny _ _ (if ((-1 : Int) == 0) = true then _ else _) _ _ s
  rw [if_neg (by decide)]
  refine wpAny_bind (HT.slicePart_ pl (wpAny_bind (HT.slicePart_ pu (wpAny_bind (wpAny_pure ?_)))))
  show wpAny _ _ (match Builtin.Slice.sliceAdjust none none (-1) (items.size : Int) with | (lo, hi) => pure (lo, (-1 : Int), Builtin.Slice.slicePlaces lo hi (-1))) _ _ s
  rw [p1]
  show wpAny _ _ (pure ((items.size : Int) - 1, (-1 : Int), Builtin.Slice.slicePlaces ((items.size : Int) - 1) (-1) (-1))) _ _ s
  rw [p2]
  refine wpAny_pure ?_
  show wpAny _ _ (if (((items.size : Int) - 1 == 0) && ((-1 : Int) == 1) && (items.size == items.size)) = true then _ else _) _ _ s
  rw [if_neg (by rw [show ((-1 : Int) == 1) = false from by decide, Bool.and_false, Bool.false_and]; exact Bool.false_ne_true), rev_pick]
  first
    | exact wpAny_bind (m := Builtin.Tuple.tupleExact _) (wpAny_newObj_type (wpAny_pure ⟨_, rfl, wpAny_pure h⟩) hz)
    | exact wpAny_bind (m := Builtin.Tuple.tupleExact _) (wpAny_newObj_type (wpAny_bind (wpAny_pure (wpAny_pure ⟨_, rfl, wpAny_pure h⟩))) hz)
    | exact wpAny_bind (wpAny_bind (m := Builtin.Tuple.tupleExact _) (wpAny_newObj_type (wpAny_pure (wpAny_pure ⟨_, rfl, wpAny_pure h⟩)) hz))
    | exact wpAny_bind (wpAny_bind (m := Builtin.Tuple.tupleExact _) (wpAny_newObj_type (wpAny_pure ⟨_, rfl, wpAny_pure h⟩) hz))
end
def tRevT (K : PySem.W.Frag) (te : TE) : TE := fun σ H Q => te σ H fun x H1 => ∃ a xs, x = .ref a ∧ SqT K H1 a xs ∧ ∀ p, H1 p = none → Q (.ref p) (upd H1 p (.tup xs.reverse))
theorem pe_revT {X : Cx} {e : Expr} {te : TE} {k : Nat} {p1 p2 p3 pos : Pos} (he : PE X e te) : PE X (.Subscript e (.Slice none none (some (.UnaryOp .USub (.Constant (.int 1) k p1) p2)) p3) pos) (tRevT X.K te) := by
  refine ⟨fun pins s σ H Q I h => Subscript_ (thn (he.run pins s σ H _ I h) fun v s1 ⟨x, H1, I1, r1, q1⟩ => ?_)⟩
  obtain ⟨a, xs, rfl, hx, q⟩ := q1
  cases r1
  have hst : PO X (some (.UnaryOp .USub (.Constant (.int 1) k p1) p2)) (tPart (tUn (rU fun i => .int (-i)) (tC (.int 1)))) := po_some (pe_un un_neg pe_int)
  refine wpAny_Slice (thn (po_none.run pins s1 σ H1 (fun o H2 => o = none ∧ H2 = H1) I1 ⟨rfl, rfl⟩) fun vl s2 ⟨l, H2, I2, pl, el, e2⟩ => ?_)
  subst el e2
  refine thn (po_none.run pins s2 σ H2 (fun o H3 => o = none ∧ H3 = H2) I2 ⟨rfl, rfl⟩) fun vu s3 ⟨u, H3, I3, pu, eu, e3⟩ => ?_
  subst eu e3
  refine thn (hst.run pins s3 σ H3 (fun o H4 => o = some (-1) ∧ H4 = H3) I3 ⟨1, rfl, -1, rfl, rfl, rfl⟩) fun vs s4 ⟨o, H4, I4, ps, eo, e4⟩ => ?_
  subst eo e4
  have I5 : Inv X pins σ H4 { s4 with heap := s4.heap.push { cls := .type "slice", data := .fields #[vl, vu, vs] } } := I4.kept (t' := s4.toks) fun b ob q => Heap.get?_push_of_some _ q
  obtain ⟨its, r, ht, hz⟩ := I5.tuple hx
  show wpAny (model X.prog X.w) X.A (subscriptTail e (.Slice none none (some (.UnaryOp .USub (.Constant (.int 1) k p1) p2)) p3) (.ref a) (.ref s4.heap.objs.size)) (EP X pins σ Q) X.xe { s4 with heap := s4.heap.push { cls := .type "slice", data := .fields #[vl, vu, vs] } }
  refine tail_any (ops := [.ref a, .ref s4.heap.objs.size]) ht.typeIs PyProof.Rows.slot_tuple_getitem.lookup ?_ (by with_unfolding_all rfl)
  refine getItem_tuple_rev ht (Heap.IsSliceOf.new _ vl vu vs) pl pu ps ?_ (by rw [List.size_toArray, ← r.length]; exact hz)
  refine ⟨.ref _, _, I5.laid (t' := s4.toks) (o := .tup xs.reverse) (fun b ob q => Heap.get?_push_of_some _ q) (Nat.le_refl _) ⟨by rw [List.length_reverse]; exact hz, _, r.reverse, IsTup.new _ _⟩, rfl, q _ (I5.hok.fresh (Nat.le_refl _))⟩
section
variable {c : Ct} {e a b : Expr} {es : List Expr} {sts rest : List Stmt} {ρ ρ1 : List Sl} {d d1 d2 : D} {ds l : List D} {α β γ δ A R : Type} {enc : α → D} {eb : β → D} {m : M α} {pos p2 p3 p4 p5 p6 : Pos} {x y : Str} {aS : Option Addr} {K : Kx} {F F' H H' : Hp} {s : List D} {σ : L2.St} {B : Bs} {out : γ → Oc}
theorem Reps.rev : ∀ {vs : List V} {l : List D}, Reps K F vs l → Reps K F vs.reverse l.reverse
  | _, _, .nil => .nil
  | _, _, .cons r t => by
    rw [List.reverse_cons, List.reverse_cons]
    exact Reps.append (Reps.rev t) (.cons r .nil)
/-- t[::-1] -/
theorem dm_revT {k : Nat} {mx : M (List α)} (hx : DM c a ρ (eT enc) mx) : DM c (.Subscript a (.Slice none none (some (.UnaryOp .USub (.Constant (.int 1) k p4) p2)) p3) pos) ρ (eT enc) (mx >>= fun xs => pure xs.reverse) := by
  obtain ⟨t, a1, a2⟩ := hx
  refine ⟨tRevT c.K.K t, fun X I => by rw [← I.K]; exact pe_revT (a1 X I), fun aS B s F H σ R Q q => a2 aS B s F H σ R _ (q.bind.imp fun xs s1 q1 v F1 H1 f1 hs1 r1 => ?_)⟩
  obtain ⟨p, vs, rfl, hp, hz, rs⟩ := r1.of_tup
  refine ⟨p, vs, rfl, SqT.of (f1.fh _ _ hp), fun n hn => ?_⟩
  have fp := Fp.new (o := .tup vs.reverse) f1.fh hn
  have q2 : ∀ v F' H', Fr aS F H F' H' → SrcAt aS c.K s1 F' H' → Rep c.K F' v (eT enc xs.reverse) → Q v H' := q1
  refine q2 _ _ _ (f1.trans fp.fr) (hs1.stepP fp) (Rep.mk_tup upd_same (by rw [List.length_map, List.length_reverse]; rw [List.length_map] at hz; exact hz) ?_)
  rw [List.map_reverse]
  exact Reps.rev (rs.mono fp.ff)
end
end Dl

/-! Dl, part O: objects of one's own: their making, their fields, their methods. -/
namespace Dl
open PySem PySem.Spec PyProof.Rows L2
open Evl (Ex)
def less (H : Hp) (x dx : Addr) : Hp := fun a => if a = x ∨ a = dx then none else H a
theorem less_eq {H : Hp} {x dx a : Addr} (h1 : a ≠ x) (h2 : a ≠ dx) : less H x dx a = H a := if_neg fun z => z.elim h1 h2
theorem less_some {H : Hp} {x dx a : Addr} {o : HO} (h : less H x dx a = some o) : a ≠ x ∧ a ≠ dx ∧ H a = some o := by
  unfold less at h
  split at h
  · cases h
  · rename_i q
    exact ⟨fun z => q (.inl z), fun z => q (.inr z), h⟩
/-- .. with self, an object of one's own, ahead of the arguments: its fields ahead of it, and behind it -/
def spS {A R : Type} (K : Kx) (n : Str) (fs0 : A → List (Str × D)) (encA : A → List Ar) (fs1 : A → R → List (Str × D)) (f : A → M R) : Sp := fun vs H Q _ => ∃ (aS : Option Addr) (s : List D) (F : Hp) (a : A) (x dx C : Addr) (gs : List (Str × V)) (ws : List V),
  vs = .ref x :: ws ∧ Ex F H ∧ SrcAt aS K s F H ∧ K.cm n = some C ∧ H x = some (.ins C dx gs) ∧ H dx = some (.own x) ∧ F x = none ∧ F dx = none ∧ aS ≠ some x ∧ aS ≠ some dx ∧ gs.map (·.1) = (fs0 a).map (·.1) ∧ Reps K F (gs.map (·.2)) ((fs0 a).map (·.2)) ∧
  Paired (ArOk aS K F) ws (encA a) ∧ Okk (f a s) fun b s' => ∀ F' H', Fr aS F (less H x dx) F' H' → SrcAt aS K s' F' H' → F' x = none → ObAt aS K ⟨F, less H x dx, F, some x⟩ F' H' x true n (fs1 a b) → Q .non H'
/-- a method of a class -/
structure MtI (g : Gx) (k : Nat) (n m : Str) (sp : Sp) : Prop where
  ex : ∃ (C f : Addr) (fd : FuncData) (ps : List Str), g.K.cm n = some C ∧ Meth g.K.K C m f ∧ FnOk g.P g.w g.K.K g.mg g.base CX0 k f fd ps sp ∧ Binds g.K.K fd ps []
/-- a class that is made by its __init__ -/
structure MkI (g : Gx) (k : Nat) (n : Str) (sp : Sp) : Prop where
  ex : ∃ (C f : Addr) (fd : FuncData) (ps : List Str), g.K.cm n = some C ∧ Mk g.K.K C f ∧ g.mg n = some (.ref C) ∧ FnOk g.P g.w g.K.K g.mg g.base CX0 k f fd ps sp ∧ Binds g.K.K fd ps []
def putFD (f : Str) (v : D) : List (Str × D) → List (Str × D)
  | [] => [(f, v)]
  | (g, x) :: r => if g = f then (g, v) :: r else (g, x) :: putFD f v r
section
variable {c : Ct} {e a b : Expr} {es : List Expr} {sts rest : List Stmt} {ρ ρ1 : List Sl} {d d1 d2 : D} {ds l : List D} {α β γ δ A R : Type} {enc : α → D} {eb : β → D} {m : M α} {pos p2 p3 p4 p5 p6 : Pos} {x y f : Str} {aS : Option Addr} {K : Kx} {F F' H H' : Hp} {s : List D} {σ : L2.St} {B : Bs} {out : γ → Oc}
theorem putF_both {v : V} : ∀ {gs : List (Str × V)} {fs : List (Str × D)}, gs.map (·.1) = fs.map (·.1) → Reps K F (gs.map (·.2)) (fs.map (·.2)) → Rep K F v d → (putF f v gs).map (·.1) = (putFD f d fs).map (·.1) ∧ Reps K F ((putF f v gs).map (·.2)) ((putFD f d fs).map (·.2))
  | [], [], _, _, r => ⟨rfl, .cons r .nil⟩
  | [], _ :: _, h, _, _ => by cases h
  | _ :: _, [], h, _, _ => by cases h
  | (g, w) :: gs, (g', d') :: fs, h, .cons r0 rs, r => by
    have h1 : g = g' := (List.cons.inj h).1
    have h2 := (List.cons.inj h).2
    subst h1
    unfold putF putFD
    by_cases q : g = f
    · rw [if_pos q, if_pos q]
      exact ⟨by rw [List.map_cons, List.map_cons, h2], .cons r rs⟩
    · rw [if_neg q, if_neg q]
      obtain ⟨h3, h4⟩ := putF_both h2 rs r
      exact ⟨by rw [List.map_cons, List.map_cons, h3], .cons r0 h4⟩
theorem REnv.ownOb {i : Nat} {t : Bool} {n : Str} {fs : List (Str × D)} (R : REnv aS K B s F H σ ρ) (h : ρ[i]? = some (.oo (.ob t n fs))) : ∃ a, σ[i]? = some (some (.ref a)) ∧ B.h a = none ∧ aS ≠ some a ∧ F a = none ∧ ObAt aS K B F H a t n fs := by
  obtain ⟨a, fp, e, ⟨C, dx, gs, rfl, h1, h2, h3, h7, h8⟩, k⟩ := R.ownO h
  have ka := (k a List.mem_cons_self).1
  have kd := (k dx (List.mem_cons_of_mem _ List.mem_cons_self)).1
  exact ⟨a, e, ka.nb, ka.ns, ka.nF, C, dx, gs, h1, h2, h3, kd.nF, kd.nb, kd.ns, h7, h8⟩
theorem REnv.mutOb {i : Nat} {t : Bool} {n : Str} {fs fs' : List (Str × D)} {p C dx : Addr} {gs gs' : List (Str × V)} (R : REnv aS K B s F H σ ρ) (h : ρ[i]? = some (.oo (.ob t n fs))) (hσ : σ[i]? = some (some (.ref p))) (hH : H p = some (.ins C dx gs)) (hc : K.cm n = some C) (g1 : gs'.map (·.1) = fs'.map (·.1)) (g2 : Reps K F (gs'.map (·.2)) (fs'.map (·.2))) :
    REnv aS K B s F (upd H p (.ins C dx gs')) σ (ρ.set i (.oo (.ob t n fs'))) := by
  obtain ⟨a, e, nb, ns, nF, _⟩ := R.ownOb h
  cases hσ.symm.trans e
  refine R.mutO h hσ (Ex.refl _) (ex_keep R.ex nF) (R.src.keep ns (fun u e => by rw [hH] at e; cases e; rfl)) (fun fp r0 k => ?_) fun a h => R.stands (dm_upd a h)
  obtain ⟨C0, dx0, gs0, rfl, h1, h2, h3, h7, h8⟩ := r0
  cases hH.symm.trans h2
  have hne : dx ≠ p := fun z => by rw [z, h2] at h3; cases h3
  refine ⟨[p, dx], ⟨p, rfl, C, dx, gs', rfl, ⟨hc, h1.2⟩, upd_same, by rw [upd_ne hne]; exact h3, g1, g2⟩, fun q hq => ⟨.inl hq, (k q hq).1.nF, ?_⟩, fun q u hq e1 _ e3 _ => ⟨by rw [upd_ne (fun z => hq (by rw [z]; exact List.mem_cons_self))]; exact e3, .inl e1⟩⟩
  by_cases z : q = p
  · rw [z]; exact ⟨_, upd_same, rfl⟩
  · rw [upd_ne z]; exact (k q hq).2
/-- x.f = e, x an object of one's own -/
theorem ds_setF (i : Nat) (tg : Bool) (n : Str) (fs : List (Str × D)) {C : Addr} {k : α → M γ} (hN : c.N[i]? = some x) (hv : Vis c.sc x) (h0 : ρ[i]? = some (.oo (.ob tg n fs))) (hc : c.K.cm n = some C) (hn : NoAttr c.K.K C f) (hz : fs.length < 1000) (he : DM c e ρ enc m)
    (hr : ∀ z, DS c rest (ρ.set i (.oo (.ob tg n (putFD f (enc z) fs)))) out (k z)) (hd : (x == ("__debug__" : Str)) = false := by decide) (hcd : (x == ("__classdict__" : Str)) = false := by decide) (hs : ∀ env, swapsWith e (some (.Attribute (.Name x p2) f p3)) pos.line env = pure false := by intro _; rfl) :
    DS c (.Assign [.Attribute (.Name x p2) f p3] e pos :: rest) ρ out (m >>= k) := by
  obtain ⟨t, a1, a2⟩ := he
  obtain ⟨w, c1, c2⟩ := DS.all hr
  refine ⟨tSeq (sFld c.K.K (tVar i) t f) w, fun X I => pss_cons (by rw [← I.K]; exact ps_fld (pe_var (i := i) (by rw [I.N]; exact hN) (by rw [I.sc]; exact hv) hd hcd) (a1 X I) (hs _)) (c1 X I), fun aS B s F H σ R E q => a2 aS B s F H σ R _ (q.bind.imp fun y s1 q1 v F1 H1 f1 hs1 r1 => ?_)⟩
  have R1 := R.step f1 hs1
  obtain ⟨p, e1, nb, ns, hF, r⟩ := R1.ownOb h0
  obtain ⟨C', dx, gs, h1, h2, h3, h4, h5, h6, h7, h8⟩ := id r
  have hCC : C' = C := by have h1 := h1.1; rw [hc] at h1; exact (Option.some.inj h1).symm
  subst hCC
  have hne : dx ≠ p := fun z => by rw [z, h2] at h3; cases h3
  have hl : gs.length = fs.length := by have := congrArg List.length h7; simpa using this
  obtain ⟨g1, g2⟩ := putF_both (f := f) h7 h8 r1
  exact ⟨_, e1, p, C', dx, gs, rfl, h2, (c.g.cls n C' hc).cl, hn, by omega, c2 y aS B s1 F1 _ σ (R1.mutOb h0 e1 h2 hc g1 g2) E q1⟩
/-- behind a call that has changed an object of one's own -/
theorem REnv.callO {i : Nat} {tg : Bool} {n n' : Str} {fs fs' : List (Str × D)} {p dx C : Addr} {gs : List (Str × V)} (R : REnv aS K B s F H σ ρ) (hi : ρ[i]? = some (.oo (.ob tg n fs))) (hσ : σ[i]? = some (some (.ref p))) (hH : H p = some (.ins C dx gs)) (hD : H dx = some (.own p)) (hdb : B.h dx = none)
    (f : Fr aS F (less H p dx) F' H') {s' : List D} (hs : SrcAt aS K s' F' H') (hF : F' p = none) (r : ObAt aS K ⟨F, less H p dx, F, some p⟩ F' H' p true n' fs') : REnv aS K B s' F' H' σ (ρ.set i (.oo (.ob tg n' fs'))) := by
  have dmm : ∀ a, H' a = none → B.h a = none := fun a h => by
    have h1 := f.dm a h
    by_cases q1 : a = p
    · obtain ⟨p', e', nb', _⟩ := R.ownOb hi
      cases hσ.symm.trans e'
      rw [q1]; exact nb'
    · by_cases q2 : a = dx
      · rw [q2]; exact hdb
      · rw [less_eq q1 q2] at h1
        exact R.stands h1
  refine R.mutO hi hσ f.ff f.fh hs (fun fp r0 k => ?_) dmm
  obtain ⟨C0, dx0, gs0, rfl, ht, g2, g3, _⟩ := r0
  have e : dx0 = dx := by
    rw [hH] at g2
    cases g2
    rfl
  subst e
  obtain ⟨C', dx', gs', r1, r2, r3, r4, r5, r6, r7, r8⟩ := r
  refine ⟨[p, dx'], ⟨p, rfl, C', dx', gs', rfl, ⟨r1.1, ht.2⟩, r2, r3, r7, r8⟩, fun q hq => ?_, fun q u hq e1 e2 e3 => f.kq q u e1 e2 (by rw [less_eq (fun z => hq (by rw [z]; exact List.mem_cons_self)) (fun z => hq (by rw [z]; exact List.mem_cons_of_mem _ List.mem_cons_self))]; exact e3)⟩
  rcases List.mem_cons.mp hq with rfl | hq
  · exact ⟨.inl List.mem_cons_self, hF, _, r2, rfl⟩
  · cases List.mem_singleton.mp hq
    refine ⟨?_, r4, _, r3, rfl⟩
    have r5' : less H p dx0 dx' = none := r5
    by_cases z1 : dx' = p
    · exact .inl (by rw [z1]; exact List.mem_cons_self)
    · by_cases z2 : dx' = dx0
      · exact .inl (by rw [z2]; exact List.mem_cons_of_mem _ List.mem_cons_self)
      · rw [less_eq z1 z2] at r5'
        exact .inr r5'
theorem lookup_names {f : Str} : ∀ {gs : List (Str × V)} {fs : List (Str × D)}, gs.map (·.1) = fs.map (·.1) → fs.lookup f = none → gs.lookup f = none
  | [], _, _, _ => rfl
  | _ :: _, [], h, _ => by cases h
  | (g, w) :: gs, (g', d') :: fs, h, hl => by
    have h1 : g = g' := (List.cons.inj h).1
    have h2 := (List.cons.inj h).2
    subst h1
    rw [List.lookup_cons] at hl ⊢
    split at hl
    · cases hl
    · exact lookup_names h2 hl
/-- x.m(..), a statement: x an object of one's own, that the method changes -/
theorem ds_methO [Cool c] (i : Nat) (tg : Bool) (n : Str) (fs : List (Str × D)) {j : Nat} {fs0 : A → List (Str × D)} {encA : A → List Ar} {fs1 : A → R → List (Str × D)} {g : A → M R} {mk : ∀ {γ : Type}, (A → M γ) → M γ} {k : A → R → M γ} {mn : Str}
    (hf : MtI c.g j n mn (spS c.K n fs0 encA fs1 g)) (hk : j ≤ c.k) (hN : c.N[i]? = some x) (hv : Vis c.sc x) (h0 : ρ[i]? = some (.oo (.ob tg n fs))) (hfs : ∀ a, fs0 a = fs) (hlm : fs.lookup mn = none) (ha : DF c ρ (e :: es) encA mk)
    (hr : ∀ z w, DS c rest (ρ.set i (.oo (.ob tg n (fs1 z w)))) out (k z w)) (hs : NoStar e := by intro _ _; rfl) (hpl : ∀ env, (backTo p4 (starEach es env)).any (·.1) = false := by intro _; rfl) (hd : (x == ("__debug__" : Str)) = false := by decide) (hcd : (x == ("__classdict__" : Str)) = false := by decide)
    (ht : ∀ env, ∃ pl : Sem Bool, eval (.Call (.Attribute (.Name x p2) mn p3) (e :: es) [] p4) env = (do
      let ov ← eval (.Name x p2) env
      standAt p3.atName
      let (f, first) ← holding [ov] (getMethod ov mn pl)
      callWith p4 f first (backTo p4 (starEach (e :: es) env)) (backToKw p4 (keywordEach [] env))) := by intro _; exact ⟨_, rfl⟩) :
    DS c (.Expr (.Call (.Attribute (.Name x p2) mn p3) (e :: es) [] p4) pos :: rest) ρ out (mk fun z => g z >>= fun w => k z w) := by
  obtain ⟨C, fa, fd, ps, b1, b2, b3, b4⟩ := hf.ex
  obtain ⟨t, a1, a2⟩ := ha
  obtain ⟨w, c1, c2⟩ := DS.all (ι := A × R) (f := fun p => ρ.set i (.oo (.ob tg n (fs1 p.1 p.2)))) (n := fun p => k p.1 p.2) fun p => hr p.1 p.2
  refine ⟨tSeq (tDrop (tMeth C mn (spS c.K n fs0 encA fs1 g) [] E0 (tVar i) t)) w, fun X I => pss_cons (ps_expr (pe_meth (CX := CX0) (k := j) (f := fa) (fd := fd) (ps := ps) (pl := (ht _).choose) (pe_var (i := i) (by rw [I.N]; exact hN) (by rw [I.sc]; exact hv) hd hcd) (by rw [I.K]; exact (c.g.cls n C b1).cl) (by rw [I.K]; exact b2) (by rw [I.P, I.w, I.K, I.mg, I.base]; exact b3) ((I.roomC Cool.h).mono hk) (by rw [I.K]; exact b4) .nil pass0 (a1 X I) (hs _ _) (hpl _) (ht _).choose_spec) (by rfl)) (c1 X I), fun aS B s F H σ R E q => ?_⟩
  obtain ⟨p, e1, nb, ns, hF, r⟩ := R.ownOb h0
  obtain ⟨C', dx, gs, h1, h2, h3, h4, h5, h6, h7, h8⟩ := id r
  have hCC : C' = C := by
    have : c.g.K.cm n = some C' := h1.1
    rw [b1] at this
    exact (Option.some.inj this).symm
  subst hCC
  refine ⟨_, e1, p, dx, gs, rfl, h2, lookup_names h7 hlm, ?_⟩
  refine a2 aS B s F H σ R _ _ _ _ q fun z s1 vs F1 H1 ok f1 hs1 r1 => ?_
  have R1 := R.step f1 hs1
  obtain ⟨h9, h10⟩ := f1.kp p _ hF ns h2
  obtain ⟨h11, h12⟩ := f1.kp dx _ h4 h6 h3
  show spS c.K n fs0 encA fs1 g (.ref p :: (vs ++ [])) H1 _ E0
  rw [List.append_nil]
  refine ⟨aS, s1, F1, z, p, dx, C', gs, vs, rfl, f1.fh, hs1, h1.1, h9, h11, h10, h12, ns, h6, by rw [hfs]; exact h7, by rw [hfs]; exact h8.mono f1.ff, r1, ok.bind.imp fun b s2 k2 F2 H2 f2 hs2 hF2 ow => ?_⟩
  exact c2 (z, b) aS B s2 F2 H2 σ (R1.callO h0 e1 h9 h11 h5 f2 hs2 hF2 ow) E k2
/-- the slots of a method that changes self -/
def startO (N : List Str) (n : Str) (fs : List (Str × D)) (as : List Ar) : List Sl := .oo (.ob true n fs) :: (startS N (.d .non :: as)).tail
theorem startS_no {N : List Str} {as : List Ar} (i : Nat) (y : Sl) (h : (startS N as)[i]? = some y) : isOw y = false := by
  unfold startS at h
  have hm := List.mem_of_getElem? h
  rcases List.mem_append.mp hm with h1 | h1
  · obtain ⟨z, _, e⟩ := List.mem_map.mp h1
    cases z <;> (subst e; rfl)
  · rw [(List.mem_replicate.mp h1).2]; rfl
theorem start_envO {N : List Str} {n : Str} {fs : List (Str × D)} {x dx C : Addr} {gs : List (Str × V)} {vs : List V} {as : List Ar} (e : Ex F H) (hs : SrcAt aS K s F H) (hc : K.cm n = some C) (hx : H x = some (.ins C dx gs)) (hdx : H dx = some (.own x)) (hF : F x = none) (hFd : F dx = none) (ns : aS ≠ some x) (nsd : aS ≠ some dx)
    (hn : gs.map (·.1) = fs.map (·.1)) (hv : Reps K F (gs.map (·.2)) (fs.map (·.2))) (r : Paired (ArOk aS K F) vs as) : REnv aS K ⟨F, less H x dx, F, some x⟩ s F H (L2.start N (.ref x :: vs)) (startO N n fs as) := by
  have R0 : REnv aS K ⟨F, H, F, none⟩ s F H (L2.start N (.non :: vs)) (startS N (.d .non :: as)) := start_env e hs (.cons Rep.non r)
  obtain ⟨φ, k1, k2, k3⟩ := R0.sl
  have hnx : dx ≠ x := fun z => by rw [z, hx] at hdx; cases hdx
  have fr : ∀ p ∈ [x, dx], Free aS ⟨F, less H x dx, F, some x⟩ F p ∧ ∃ o, H p = some o ∧ NT o := fun p hp => by
    rcases List.mem_cons.mp hp with rfl | hp
    · exact ⟨⟨if_pos (.inl rfl), ns, hF⟩, _, hx, rfl⟩
    · cases List.mem_singleton.mp hp
      exact ⟨⟨if_pos (.inr rfl), nsd, hFd⟩, _, hdx, rfl⟩
  refine ⟨⟨Ex.refl _, e, fun a o h1 h2 h3 _ => ⟨(less_some h3).2.2, .inl h1⟩, fun a h => by show (if a = x ∨ a = dx then none else H a) = none; split <;> first | rfl | exact h⟩, Ex.refl _, hs, ?_, fun i => if i = 0 then [x, dx] else [], fun i p hp => ?_, fun i j p hij h1 h2 => ?_, fun i v y h1 h2 => ?_⟩
  · have := R0.len
    unfold startO
    unfold L2.start startS at this ⊢
    simpa using this
  · dsimp only at hp
    split at hp
    · exact fr p hp
    · exact absurd hp List.not_mem_nil
  · dsimp only at h1 h2
    split at h1
    · split at h2
      · rename_i e1 e2; exact hij (e1.trans e2.symm)
      · exact absurd h2 List.not_mem_nil
    · exact absurd h1 List.not_mem_nil
  · cases i with
    | zero =>
      unfold L2.start at h1
      unfold startO at h2
      cases h1
      cases h2
      exact ⟨x, rfl, C, dx, gs, rfl, ⟨hc, fun _ => rfl⟩, hx, hdx, hn, hv⟩
    | succ i =>
      dsimp only
      rw [if_neg (Nat.succ_ne_zero i)]
      have h1' : (L2.start N (.non :: vs))[i + 1]? = some v := by
        unfold L2.start at h1 ⊢
        exact h1
      have h2' : (startS N (.d .non :: as))[i + 1]? = some y := by
        unfold startO at h2
        rw [List.getElem?_cons_succ, List.getElem?_tail] at h2
        exact h2
      have q := k3 (i + 1) v y h1' h2'
      have hy := startS_no (i + 1) y h2'
      cases y with
      | ow l => cases hy
      | oo o => cases hy
      | no => trivial
      | im d => exact q
      | sr => exact q
      | er a d fs => exact q
/-- a def whose first argument is an object of one's own that it changes; it gives None -/
theorem fn_procO {g : Gx} {x qual : Str} {st : Stmt} {f0 : Addr} {fd : FuncData} {N ps : List Str} {k : Nat} {n : Str} {fs0 : A → List (Str × D)} {encA : A → List Ar} {fs1 : A → R → List (Str × D)} {f : A → M R} {ρe : A → R → List Sl} (Fu : Fun g.K.K x qual st f0 fd) (S : FnScope N ps (defScope st))
    (hl : ∀ a, (encA a).length + 1 = ps.length) (he : ∀ a b, (ρe a b)[0]? = some (.oo (.ob true n (fs1 a b)))) (body : ∀ a, DS (cxD g N (defScope st) k) (defBody st) (startO N n (fs0 a) (encA a)) (fun b => .nx (ρe a b)) (f a)) : FnOk g.P g.w g.K.K g.mg g.base CX0 (k + 1) f0 fd ps (spS g.K n fs0 encA fs1 f) := by
  refine Fu.ok S (fun vs H Q E h => ?_) fun cdv Ar outer s H vs Q E hr h => ?_
  · obtain ⟨aS, s, F, a, x, dx, C, gs, ws, rfl, _, _, _, _, _, _, _, _, _, _, _, r, _⟩ := h
    rw [List.length_cons, Paired.length r]
    exact hl a
  · obtain ⟨aS, s, F, a, x, dx, C, gs, ws, rfl, e, hs, hc, hx, hdx, hF, hFd, ns, nsd, hn, hv, r, ok⟩ := h
    obtain ⟨t, h1, h2⟩ := body a
    refine ⟨t, h1 _ (body_is S.nd hr), h2 aS _ s F H _ (start_envO e hs hc hx hdx hF hFd ns nsd hn hv r) _ (ok.imp fun b s' k σ' F' H' R' => ?_)⟩
    obtain ⟨p, hσ, nb, ns', hF', ow⟩ := R'.ownOb (he a b)
    have hp : p = x := by
      obtain ⟨_, _, _, ⟨_, ht⟩, _⟩ := ow
      exact (Option.some.inj (ht rfl)).symm
    subst hp
    exact k F' H' R'.fr R'.src hF' ow
end
end Dl

/-! Dl, part P: objects made; methods of known objects. -/
namespace Dl
open PySem PySem.Spec PyProof.Rows L2
open Evl (Ex)
section
variable {c : Ct} {e a b : Expr} {es : List Expr} {sts rest : List Stmt} {ρ ρ1 : List Sl} {d d1 d2 : D} {ds l : List D} {α β γ δ A R : Type} {enc : α → D} {eb : β → D} {m : M α} {pos p2 p3 p4 p5 p6 : Pos} {x y f : Str} {aS : Option Addr} {K : Kx} {F F' H H' : Hp} {s : List D} {σ : L2.St} {B : Bs} {out : γ → Oc}
/-- C(e, ..): an object that nobody changes any more -/
theorem dm_make [Cool c] {j : Nat} {encA : A → List Ar} {fs1 : A → R → List (Str × D)} {g : A → M R} {mk : ∀ {γ : Type}, (A → M γ) → M γ} {enc : δ → D} {w : A → R → δ} (hf : MkI c.g j x (spS c.K x (fun _ => []) encA fs1 g)) (hk : j + 1 ≤ c.k) (hg : GI c x) (hw : ∀ a b, enc (w a b) = .obj x (fs1 a b)) (ha : DF c ρ (e :: es) encA mk)
    (hs : NoStar e := by intro _ _; rfl) (hpl : ∀ env, (backTo pos (starEach es env)).any (·.1) = false := by intro _; rfl) (hdb : (x == ("__debug__" : Str)) = false := by decide) :
    DM c (.Call (.Name x p2) (e :: es) [] pos) ρ enc (mk fun z => g z >>= fun b => pure (w z b)) := by
  obtain ⟨C, fa, fd, ps, b1, b2, b3, b4, b5⟩ := hf.ex
  obtain ⟨t, a1, a2⟩ := ha
  refine ⟨tMake C (spS c.K x (fun _ => []) encA fs1 g) [] E0 t, fun X I => pe_make (CX := CX0) (k := j) (f := fa) (fd := fd) (ps := ps) (by rw [I.K]; exact b2) (by rw [I.P, I.w, I.K, I.mg, I.base]; exact b4) ((I.roomC Cool.h).mono hk) (gl_of I hg) (by rw [I.mg]; exact b3) (by rw [I.K]; exact b5) .nil pass0 (a1 X I) hdb (hs _ _) (hpl _), fun aS B s F H σ R Q q => ?_⟩
  refine a2 aS B s F H σ R _ _ _ _ q fun z s1 vs F1 H1 ok f1 hs1 r1 => ?_
  intro p dx hp hd hne
  rw [List.append_nil]
  have nF : F1 p = none := Ex.none_of f1.fh hp
  have nD : F1 dx = none := Ex.none_of f1.fh hd
  have ns := hs1.notAt hp
  have nsd := hs1.notAt hd
  have he : Ex F1 (upd (upd H1 dx (.own p)) p (.ins C dx [])) := fun b o hb => by
    have h5 := f1.fh _ _ hb
    rw [upd_ne (ne_of_none h5 hp), upd_ne (ne_of_none h5 hd)]
    exact h5
  have hs2 : SrcAt aS c.K s1 F1 (upd (upd H1 dx (.own p)) p (.ins C dx [])) := ⟨tabs_new (tabs_new hs1.tb hd) (by rw [upd_ne (Ne.symm hne)]; exact hp), hs1.nf, fun b hb => by
    obtain ⟨h5, h6⟩ := hs1.at' b hb
    exact ⟨h5, h6.loc (by rw [upd_ne (h6.off hp), upd_ne (h6.off hd)]) (Ex.refl _)⟩⟩
  refine ⟨aS, s1, F1, z, p, dx, C, [], vs, rfl, he, hs2, b1, upd_same, by rw [upd_ne hne]; exact upd_same, nF, nD, ns, nsd, rfl, .nil, r1, ok.bind.imp fun b s2 k2 F2 H2 f2 hs3 hF2 ow => ⟨rfl, ?_⟩⟩
  obtain ⟨C', dx', gs, h1, h2, h3, h4, h5, h6, h7, h8⟩ := ow
  have hne2 : dx' ≠ p := fun q => by rw [q, h2] at h3; cases h3
  have hF3 : upd F2 p (.ins C' dx' gs) dx' = none := by rw [upd_ne hne2]; exact h4
  have ef : Ex F2 (upd (upd F2 p (.ins C' dx' gs)) dx' (.own p)) := (Ex.new hF2).trans (Ex.new hF3)
  have hm := h8.mono ef
  have k3 : Okk ((pure (w z b) : M δ) s2) _ := k2
  have dxn : ∀ a o, H1 a = some o → a ≠ p → a ≠ dx → a ≠ dx' := fun a o ha h9 h10 z => by
    have h5' : less (upd (upd H1 dx (.own p)) p (.ins C dx [])) p dx dx' = none := h5
    rw [← z, less_eq h9 h10, upd_ne h9, upd_ne h10, ha] at h5'
    cases h5'
  refine k3 _ _ _ (f1.trans ⟨f2.ff.trans ef, Ex.freeze (Ex.freeze f2.fh h2) h3, fun a o q1 q2 q3 q8 => ?_, fun a h => ?_⟩) ⟨hs3.tb, nf_upd hs3.tb (nf_upd hs3.tb hs3.nf fun u e => by rw [h2] at e; cases e; rfl) (fun u e => by rw [h3] at e; cases e; rfl), fun a ha => ?_⟩ ?_
  · have q4 := ne_of_none q3 hp
    have q5 := ne_of_none q3 hd
    obtain ⟨q6, q7⟩ := f2.kq a o q1 q2 (by rw [less_eq q4 q5, upd_ne q4, upd_ne q5]; exact q3) q8
    exact ⟨q6, by rw [upd_ne (dxn a o q3 q4 q5), upd_ne q4]; exact q7⟩
  · have q1 := f2.dm a h
    by_cases q4 : a = p
    · rw [q4]; exact hp
    · by_cases q5 : a = dx
      · rw [q5]; exact hd
      · rw [less_eq q4 q5, upd_ne q4, upd_ne q5] at q1; exact q1
  · obtain ⟨h9, h10⟩ := hs3.at' a ha
    have q4 : a ≠ p := fun z => ns (by rw [ha, z])
    have q5 : a ≠ dx' := fun z => h6 (by rw [ha, z])
    exact ⟨by rw [upd_ne q5, upd_ne q4]; exact h9, h10.loc rfl ef⟩
  · rw [hw]
    exact .obj h1.1 (by rw [upd_ne (Ne.symm hne2)]; exact upd_same) upd_same h7 fun i x y e1 e2 => hm.at i _ _ (by rw [List.getElem?_map, e1]; rfl) (by rw [List.getElem?_map, e2]; rfl)
theorem MtI.of {g : Gx} {k : Nat} {n m qual : Str} {st : Stmt} {C f0 : Addr} {fd : FuncData} {N ps : List Str} {encA : A → List Ar} {encB : R → D} {h : A → M R} (hc : g.K.cm n = some C) (hm : Meth g.K.K C m f0) (Fu : Fun g.K.K m qual st f0 fd) (S : FnScope N ps (defScope st)) (bd : Binds g.K.K fd ps [])
    (hl : ∀ a, (encA a).length = ps.length) (body : ∀ a, DS (cxD g N (defScope st) k) (defBody st) (startS N (encA a)) (outV encB) (h a)) : MtI g (k + 1) n m (spM g.K encA encB h) := by
  refine ⟨C, f0, fd, ps, hc, hm, ?_, bd⟩
  refine Fu.ok S (fun vs H Q E h => ?_) fun cdv Ar outer s H vs Q E hr h => ?_
  · obtain ⟨aS, s, F, a, _, _, r, _⟩ := h
    rw [Paired.length r]
    exact hl a
  · obtain ⟨aS, s, F, a, e, hs, r, ok⟩ := h
    obtain ⟨t, h1, h2⟩ := body a
    exact ⟨t, h1 _ (body_is S.nd hr), h2 aS ⟨F, H, F, none⟩ s F H _ (start_env e hs r) _ (ok.imp fun b s' k v F' H' f' hs' r' => k v F' H' f' hs' r')⟩
theorem MtI.ofO {g : Gx} {k : Nat} {n m qual : Str} {st : Stmt} {C f0 : Addr} {fd : FuncData} {N ps : List Str} {fs0 : A → List (Str × D)} {encA : A → List Ar} {fs1 : A → R → List (Str × D)} {h : A → M R} {ρe : A → R → List Sl} (hc : g.K.cm n = some C) (hm : Meth g.K.K C m f0) (Fu : Fun g.K.K m qual st f0 fd) (S : FnScope N ps (defScope st)) (bd : Binds g.K.K fd ps [])
    (hl : ∀ a, (encA a).length + 1 = ps.length) (he : ∀ a b, (ρe a b)[0]? = some (.oo (.ob true n (fs1 a b)))) (body : ∀ a, DS (cxD g N (defScope st) k) (defBody st) (startO N n (fs0 a) (encA a)) (fun b => .nx (ρe a b)) (h a)) : MtI g (k + 1) n m (spS g.K n fs0 encA fs1 h) :=
  ⟨C, f0, fd, ps, hc, hm, fn_procO Fu S hl he body, bd⟩
theorem MkI.of {g : Gx} {k : Nat} {n qual : Str} {st : Stmt} {C f0 : Addr} {fd : FuncData} {N ps : List Str} {encA : A → List Ar} {fs1 : A → R → List (Str × D)} {h : A → M R} {ρe : A → R → List Sl} (hc : g.K.cm n = some C) (hm : Mk g.K.K C f0) (gx : g.mg n = some (.ref C)) (Fu : Fun g.K.K "__init__" qual st f0 fd) (S : FnScope N ps (defScope st)) (bd : Binds g.K.K fd ps [])
    (hl : ∀ a, (encA a).length + 1 = ps.length) (he : ∀ a b, (ρe a b)[0]? = some (.oo (.ob true n (fs1 a b)))) (body : ∀ a, DS (cxD g N (defScope st) k) (defBody st) (startO N n [] (encA a)) (fun b => .nx (ρe a b)) (h a)) : MkI g (k + 1) n (spS g.K n (fun _ => []) encA fs1 h) :=
  ⟨C, f0, fd, ps, hc, hm, gx, fn_procO Fu S hl he body, bd⟩
end
end Dl

/-! Dl, part Q: the rules that gen.py names: calls of n arguments, displays, more of statements. -/
namespace Dl
open PySem PySem.Spec PyProof.Rows L2
open Evl (Ex)
section
variable {c : Ct} {e a b : Expr} {es : List Expr} {sts rest sts2 : List Stmt} {ρ ρ1 : List Sl} {d d1 d2 : D} {ds l : List D} {α β γ δ μ A R : Type} {enc : α → D} {eb : β → D} {m : M α} {pos p2 p3 p4 p5 p6 : Pos} {x y f : Str} {aS : Option Addr} {K : Kx} {F F' H H' : Hp} {s : List D} {σ : L2.St} {B : Bs} {out : γ → Oc}
/-! displays of one kind -/
def nilM {α : Type} : M (List α) := pure []
def consM {α : Type} (m : M α) (ml : M (List α)) : M (List α) := m >>= fun a => ml >>= fun l => pure (a :: l)
def DH (c : Ct) (ρ : List Sl) (es : List Expr) (enc : α → D) (ml : M (List α)) : Prop := DKM c ρ es (fun l => l.map enc) ml
theorem dh_nil : DH c ρ [] enc nilM := ⟨_, fun X I => pa_nil, fun aS B s F H σ R Q q => q [] F H (Fr.refl R.ex) R.src .nil⟩
theorem dh_cons {ml : M (List α)} (h : DM c e ρ enc m) (hr : DH c ρ es enc ml) (hs : NoStar e := by intro _ _; rfl) : DH c ρ (e :: es) enc (consM m ml) := by
  obtain ⟨t, h1, h2⟩ := h
  obtain ⟨u, h3, h4⟩ := hr
  refine ⟨_, fun X I => pa_cons (h1 X I) (h3 X I) (hs _ _), fun aS B s F H σ R Q q => h2 aS B s F H σ R _ ?_⟩
  have q : Okk ((m >>= fun a => ml >>= fun l => pure (a :: l) : M (List α)) s) _ := q
  refine q.bind.imp fun a s1 q1 v F1 H1 f1 hs1 r1 => h4 aS B s1 F1 H1 σ (R.step f1 hs1) _ (q1.bind.imp fun l s2 q2 vs F2 H2 f2 hs2 r2 => ?_)
  exact q2 (v :: vs) F2 H2 (f1.trans f2) hs2 (.cons (r1.mono f2.ff) r2)
theorem dm_tupH {k} {ml : M (List α)} (h : DH c ρ es enc ml) (hz : es.length ≤ LIM := by decide) : DM c (.Tuple es k pos) ρ (eT enc) (ml >>= fun l => chk l.length >>= fun _ => pure l) := by
  obtain ⟨t, h1, h2⟩ := h
  refine ⟨_, fun X I => pe_tup (h1 X I), fun aS B s F H σ R Q q => h2 aS B s F H σ R _ (q.bind.imp fun l s1 q1 vs F1 H1 f1 hs1 r1 => ?_)⟩
  obtain ⟨hl, q2⟩ := q1.chk
  have hv : vs.length ≤ LIM := by rw [r1.length, List.length_map]; exact hl
  refine ⟨lim_line hv, fun p hp => ?_⟩
  have fp := Fp.new (o := .tup vs) f1.fh hp
  have q3 : ∀ v F' H', Fr aS F H F' H' → SrcAt aS c.K s1 F' H' → Rep c.K F' v (eT enc l) → Q v H' := q2
  exact q3 _ _ _ (f1.trans fp.fr) (hs1.stepP fp) (Rep.mk_tup upd_same (by rw [List.length_map]; exact hl) (r1.mono fp.ff))
theorem do_lstH {ml : M (List α)} (h : DH c ρ es enc ml) : DO c (.List es pos) ρ (fun l => l.map enc) (ml >>= fun l => chk l.length >>= fun _ => pure l) := by
  obtain ⟨t, h1, h2⟩ := h
  refine ⟨_, fun X I => pe_lst (h1 X I), fun aS B s F H σ R Q q => h2 aS B s F H σ R _ (q.bind.imp fun l s1 q1 vs F1 H1 f1 hs1 r1 => ?_)⟩
  obtain ⟨hl, q2⟩ := q1.chk
  have hv : vs.length ≤ LIM := by rw [r1.length, List.length_map]; exact hl
  refine ⟨lim_line hv, fun p hp => ?_⟩
  have fp := Fp.own (o := .lst vs) f1.fh hp
  have q3 : ∀ p ws F' H', Fr aS F H F' H' → SrcAt aS c.K s1 F' H' → H p = none → aS ≠ some p → F' p = none → H' p = some (.lst ws) → (l.map enc).length ≤ LIM → Reps c.K F' ws (l.map enc) → Q (.ref p) H' := q2
  exact q3 p vs F1 _ (f1.trans fp.fr) (hs1.stepP fp) (Fr.none_of f1 (hs1.notAt hp) hp) (hs1.notAt hp) (Ex.none_of f1.fh hp) upd_same (by rw [List.length_map]; exact hl) r1

abbrev eScr : List Int → D := fun l => .scr (l.map D.int)
theorem dm_tup2 {k} {α0 α1 : Type} {e0 : α0 → D} {e1 : α1 → D} {m0 : M α0} {m1 : M α1} {a0 a1 : Expr} (h0 : DM c a0 ρ e0 m0) (h1 : DM c a1 ρ e1 m1) (s0 : NoStar a0 := by intro _ _; rfl) (s1 : NoStar a1 := by intro _ _; rfl) : DM c (.Tuple [a0, a1] k pos) ρ (eP e0 e1) (m0 >>= fun x0 => m1 >>= fun x1 => pure (x0, x1)) :=
  (dm_tupc (fun p => (p.1, p.2.1)) (kc_cons h0 (kc_cons h1 kc_nil s1) s0) fun _ => rfl)
theorem nostars0 {pos : Pos} {env : Env} : (backTo pos (starEach [] env)).any (·.1) = false := rfl
theorem nostars1 {a0 : Expr} {pos : Pos} {env : Env} (s0 : NoStar a0) : (backTo pos (starEach [a0] env)).any (·.1) = false := by
  rw [s0]; rfl
theorem nostars2 {a0 a1 : Expr} {pos : Pos} {env : Env} (s0 : NoStar a0) (s1 : NoStar a1) : (backTo pos (starEach [a0, a1] env)).any (·.1) = false := by
  rw [s0, s1]; rfl
theorem nostars3 {a0 a1 a2 : Expr} {pos : Pos} {env : Env} (s0 : NoStar a0) (s1 : NoStar a1) (s2 : NoStar a2) : (backTo pos (starEach [a0, a1, a2] env)).any (·.1) = false := by
  rw [s0, s1, s2]; rfl
theorem nostars4 {a0 a1 a2 a3 : Expr} {pos : Pos} {env : Env} (s0 : NoStar a0) (s1 : NoStar a1) (s2 : NoStar a2) (s3 : NoStar a3) : (backTo pos (starEach [a0, a1, a2, a3] env)).any (·.1) = false := by
  rw [s0, s1, s2, s3]; rfl
theorem dm_c1 [Cool c] {j : Nat} {α0 : Type} {e0 : α0 → D} {m0 : M α0} {a0 : Expr} {eB : R → D} {f : α0 → M R} (hf : FnI c.g j x (spM c.K (aC e0 aN) eB (fun p => f p.1))) (hk : j ≤ c.k) (hg : GI c x) (h0 : DM c a0 ρ e0 m0) (s0 : NoStar a0 := by intro _ _; rfl) (hdb : (x == ("__debug__" : Str)) = false := by decide) :
    DM c (.Call (.Name x p2) [a0] [] pos) ρ eB (m0 >>= fun x0 => f x0) :=
  dm_fn (f := (fun p => f p.1)) hf hk hg (df_cons h0 df_nil s0) s0 (by intro env; exact nostars0 ) hdb
theorem dm_c2 [Cool c] {j : Nat} {α0 α1 : Type} {e0 : α0 → D} {e1 : α1 → D} {m0 : M α0} {m1 : M α1} {a0 a1 : Expr} {eB : R → D} {f : α0 → α1 → M R} (hf : FnI c.g j x (spM c.K (aC e0 (aC e1 aN)) eB (fun p => f p.1 p.2.1))) (hk : j ≤ c.k) (hg : GI c x) (h0 : DM c a0 ρ e0 m0) (h1 : DM c a1 ρ e1 m1) (s0 : NoStar a0 := by intro _ _; rfl) (s1 : NoStar a1 := by intro _ _; rfl) (hdb : (x == ("__debug__" : Str)) = false := by decide) :
    DM c (.Call (.Name x p2) [a0, a1] [] pos) ρ eB (m0 >>= fun x0 => m1 >>= fun x1 => f x0 x1) :=
  dm_fn (f := (fun p => f p.1 p.2.1)) hf hk hg (df_cons h0 (df_cons h1 df_nil s1) s0) s0 (by intro env; exact nostars1 s1) hdb
theorem dm_c3 [Cool c] {j : Nat} {α0 α1 α2 : Type} {e0 : α0 → D} {e1 : α1 → D} {e2 : α2 → D} {m0 : M α0} {m1 : M α1} {m2 : M α2} {a0 a1 a2 : Expr} {eB : R → D} {f : α0 → α1 → α2 → M R} (hf : FnI c.g j x (spM c.K (aC e0 (aC e1 (aC e2 aN))) eB (fun p => f p.1 p.2.1 p.2.2.1))) (hk : j ≤ c.k) (hg : GI c x) (h0 : DM c a0 ρ e0 m0) (h1 : DM c a1 ρ e1 m1) (h2 : DM c a2 ρ e2 m2) (s0 : NoStar a0 := by intro _ _; rfl) (s1 : NoStar a1 := by intro _ _; rfl) (s2 : NoStar a2 := by intro _ _; rfl) (hdb : (x == ("__debug__" : Str)) = false := by decide) :
    DM c (.Call (.Name x p2) [a0, a1, a2] [] pos) ρ eB (m0 >>= fun x0 => m1 >>= fun x1 => m2 >>= fun x2 => f x0 x1 x2) :=
  dm_fn (f := (fun p => f p.1 p.2.1 p.2.2.1)) hf hk hg (df_cons h0 (df_cons h1 (df_cons h2 df_nil s2) s1) s0) s0 (by intro env; exact nostars2 s1 s2) hdb
theorem dm_c5 [Cool c] {j : Nat} {α0 α1 α2 α3 α4 : Type} {e0 : α0 → D} {e1 : α1 → D} {e2 : α2 → D} {e3 : α3 → D} {e4 : α4 → D} {m0 : M α0} {m1 : M α1} {m2 : M α2} {m3 : M α3} {m4 : M α4} {a0 a1 a2 a3 a4 : Expr} {eB : R → D} {f : α0 → α1 → α2 → α3 → α4 → M R} (hf : FnI c.g j x (spM c.K (aC e0 (aC e1 (aC e2 (aC e3 (aC e4 aN))))) eB (fun p => f p.1 p.2.1 p.2.2.1 p.2.2.2.1 p.2.2.2.2.1))) (hk : j ≤ c.k) (hg : GI c x) (h0 : DM c a0 ρ e0 m0) (h1 : DM c a1 ρ e1 m1) (h2 : DM c a2 ρ e2 m2) (h3 : DM c a3 ρ e3 m3) (h4 : DM c a4 ρ e4 m4) (s0 : NoStar a0 := by intro _ _; rfl) (s1 : NoStar a1 := by intro _ _; rfl) (s2 : NoStar a2 := by intro _ _; rfl) (s3 : NoStar a3 := by intro _ _; rfl) (s4 : NoStar a4 := by intro _ _; rfl) (hdb : (x == ("__debug__" : Str)) = false := by decide) :
    DM c (.Call (.Name x p2) [a0, a1, a2, a3, a4] [] pos) ρ eB (m0 >>= fun x0 => m1 >>= fun x1 => m2 >>= fun x2 => m3 >>= fun x3 => m4 >>= fun x4 => f x0 x1 x2 x3 x4) :=
  dm_fn (f := (fun p => f p.1 p.2.1 p.2.2.1 p.2.2.2.1 p.2.2.2.2.1)) hf hk hg (df_cons h0 (df_cons h1 (df_cons h2 (df_cons h3 (df_cons h4 df_nil s4) s3) s2) s1) s0) s0 (by intro env; exact nostars4 s1 s2 s3 s4) hdb
theorem dm_s0 [Cool c] {j : Nat} {sx : Str} {ps : Pos} (i : Nat) (hN : c.N[i]? = some sx) (hv : Vis c.sc sx) (hρ : ρ[i]? = some .sr)    {eB : R → D} {f : M R} (hf : FnI c.g j x (spM c.K (aR aN) eB (fun _ => f))) (hk : j ≤ c.k) (hg : GI c x)   (hd : (sx == ("__debug__" : Str)) = false := by decide) (hcd : (sx == ("__classdict__" : Str)) = false := by decide) (hdb : (x == ("__debug__" : Str)) = false := by decide) :
    DM c (.Call (.Name x p2) [.Name sx ps] [] pos) ρ eB ( f) :=
  dm_fn (f := (fun _ => f)) hf hk hg (df_src i hN hv hρ df_nil hd hcd) (by intro _ _; rfl) (by intro env; exact nostars0 ) hdb
theorem dm_s1 [Cool c] {j : Nat} {sx : Str} {ps : Pos} (i : Nat) (hN : c.N[i]? = some sx) (hv : Vis c.sc sx) (hρ : ρ[i]? = some .sr) {α0 : Type} {e0 : α0 → D} {m0 : M α0} {a0 : Expr} {eB : R → D} {f : α0 → M R} (hf : FnI c.g j x (spM c.K (aR (aC e0 aN)) eB (fun p => f p.1))) (hk : j ≤ c.k) (hg : GI c x) (h0 : DM c a0 ρ e0 m0) (s0 : NoStar a0 := by intro _ _; rfl) (hd : (sx == ("__debug__" : Str)) = false := by decide) (hcd : (sx == ("__classdict__" : Str)) = false := by decide) (hdb : (x == ("__debug__" : Str)) = false := by decide) :
    DM c (.Call (.Name x p2) [.Name sx ps, a0] [] pos) ρ eB (m0 >>= fun x0 => f x0) :=
  dm_fn (f := (fun p => f p.1)) hf hk hg (df_src i hN hv hρ (df_cons h0 df_nil s0) hd hcd) (by intro _ _; rfl) (by intro env; exact nostars1 s0) hdb
theorem dm_s2 [Cool c] {j : Nat} {sx : Str} {ps : Pos} (i : Nat) (hN : c.N[i]? = some sx) (hv : Vis c.sc sx) (hρ : ρ[i]? = some .sr) {α0 α1 : Type} {e0 : α0 → D} {e1 : α1 → D} {m0 : M α0} {m1 : M α1} {a0 a1 : Expr} {eB : R → D} {f : α0 → α1 → M R} (hf : FnI c.g j x (spM c.K (aR (aC e0 (aC e1 aN))) eB (fun p => f p.1 p.2.1))) (hk : j ≤ c.k) (hg : GI c x) (h0 : DM c a0 ρ e0 m0) (h1 : DM c a1 ρ e1 m1) (s0 : NoStar a0 := by intro _ _; rfl) (s1 : NoStar a1 := by intro _ _; rfl) (hd : (sx == ("__debug__" : Str)) = false := by decide) (hcd : (sx == ("__classdict__" : Str)) = false := by decide) (hdb : (x == ("__debug__" : Str)) = false := by decide) :
    DM c (.Call (.Name x p2) [.Name sx ps, a0, a1] [] pos) ρ eB (m0 >>= fun x0 => m1 >>= fun x1 => f x0 x1) :=
  dm_fn (f := (fun p => f p.1 p.2.1)) hf hk hg (df_src i hN hv hρ (df_cons h0 (df_cons h1 df_nil s1) s0) hd hcd) (by intro _ _; rfl) (by intro env; exact nostars2 s0 s1) hdb
theorem dm_s3 [Cool c] {j : Nat} {sx : Str} {ps : Pos} (i : Nat) (hN : c.N[i]? = some sx) (hv : Vis c.sc sx) (hρ : ρ[i]? = some .sr) {α0 α1 α2 : Type} {e0 : α0 → D} {e1 : α1 → D} {e2 : α2 → D} {m0 : M α0} {m1 : M α1} {m2 : M α2} {a0 a1 a2 : Expr} {eB : R → D} {f : α0 → α1 → α2 → M R} (hf : FnI c.g j x (spM c.K (aR (aC e0 (aC e1 (aC e2 aN)))) eB (fun p => f p.1 p.2.1 p.2.2.1))) (hk : j ≤ c.k) (hg : GI c x) (h0 : DM c a0 ρ e0 m0) (h1 : DM c a1 ρ e1 m1) (h2 : DM c a2 ρ e2 m2) (s0 : NoStar a0 := by intro _ _; rfl) (s1 : NoStar a1 := by intro _ _; rfl) (s2 : NoStar a2 := by intro _ _; rfl) (hd : (sx == ("__debug__" : Str)) = false := by decide) (hcd : (sx == ("__classdict__" : Str)) = false := by decide) (hdb : (x == ("__debug__" : Str)) = false := by decide) :
    DM c (.Call (.Name x p2) [.Name sx ps, a0, a1, a2] [] pos) ρ eB (m0 >>= fun x0 => m1 >>= fun x1 => m2 >>= fun x2 => f x0 x1 x2) :=
  dm_fn (f := (fun p => f p.1 p.2.1 p.2.2.1)) hf hk hg (df_src i hN hv hρ (df_cons h0 (df_cons h1 (df_cons h2 df_nil s2) s1) s0) hd hcd) (by intro _ _; rfl) (by intro env; exact nostars3 s0 s1 s2) hdb
theorem dm_s4 [Cool c] {j : Nat} {sx : Str} {ps : Pos} (i : Nat) (hN : c.N[i]? = some sx) (hv : Vis c.sc sx) (hρ : ρ[i]? = some .sr) {α0 α1 α2 α3 : Type} {e0 : α0 → D} {e1 : α1 → D} {e2 : α2 → D} {e3 : α3 → D} {m0 : M α0} {m1 : M α1} {m2 : M α2} {m3 : M α3} {a0 a1 a2 a3 : Expr} {eB : R → D} {f : α0 → α1 → α2 → α3 → M R} (hf : FnI c.g j x (spM c.K (aR (aC e0 (aC e1 (aC e2 (aC e3 aN))))) eB (fun p => f p.1 p.2.1 p.2.2.1 p.2.2.2.1))) (hk : j ≤ c.k) (hg : GI c x) (h0 : DM c a0 ρ e0 m0) (h1 : DM c a1 ρ e1 m1) (h2 : DM c a2 ρ e2 m2) (h3 : DM c a3 ρ e3 m3) (s0 : NoStar a0 := by intro _ _; rfl) (s1 : NoStar a1 := by intro _ _; rfl) (s2 : NoStar a2 := by intro _ _; rfl) (s3 : NoStar a3 := by intro _ _; rfl) (hd : (sx == ("__debug__" : Str)) = false := by decide) (hcd : (sx == ("__classdict__" : Str)) = false := by decide) (hdb : (x == ("__debug__" : Str)) = false := by decide) :
    DM c (.Call (.Name x p2) [.Name sx ps, a0, a1, a2, a3] [] pos) ρ eB (m0 >>= fun x0 => m1 >>= fun x1 => m2 >>= fun x2 => m3 >>= fun x3 => f x0 x1 x2 x3) :=
  dm_fn (f := (fun p => f p.1 p.2.1 p.2.2.1 p.2.2.2.1)) hf hk hg (df_src i hN hv hρ (df_cons h0 (df_cons h1 (df_cons h2 (df_cons h3 df_nil s3) s2) s1) s0) hd hcd) (by intro _ _; rfl) (by intro env; exact nostars4 s0 s1 s2 s3) hdb
theorem do_c1 [Cool c] {j : Nat} {α0 : Type} {e0 : α0 → D} {m0 : M α0} {a0 : Expr} {eB : R → List D} {f : α0 → M R} (hf : FnI c.g j x (spO c.K (aC e0 aN) eB (fun p => f p.1))) (hk : j ≤ c.k) (hg : GI c x) (h0 : DM c a0 ρ e0 m0) (s0 : NoStar a0 := by intro _ _; rfl) (hdb : (x == ("__debug__" : Str)) = false := by decide) :
    DO c (.Call (.Name x p2) [a0] [] pos) ρ eB (m0 >>= fun x0 => f x0) :=
  do_fn (f := (fun p => f p.1)) hf hk hg (df_cons h0 df_nil s0) s0 (by intro env; exact nostars0 ) hdb
end
end Dl

/-! Dl, part R: more rules that gen.py names. -/
namespace Dl
open PySem PySem.Spec PyProof.Rows L2
open Evl (Ex)
section
variable {c : Ct} {e a b : Expr} {es : List Expr} {sts rest sts2 : List Stmt} {ρ ρ1 : List Sl} {d d1 d2 : D} {ds l : List D} {α β γ δ μ A R : Type} {enc : α → D} {eb : β → D} {m : M α} {pos p2 p3 p4 p5 p6 : Pos} {x y f : Str} {aS : Option Addr} {K : Kx} {F F' H H' : Hp} {s : List D} {σ : L2.St} {B : Bs} {out : γ → Oc}
theorem up_tup (z : List α) : eT enc z = eT eId (z.map enc) := by show D.tup _ = D.tup _; rw [List.map_map]; rfl
/-! statements -/
theorem DS.map {out' : δ → Oc} {n : M γ} (g : γ → δ) (h : DS c sts ρ out n) (hg : ∀ z, out' (g z) = out z) : DS c sts ρ out' (n >>= fun z => pure (g z)) := by
  obtain ⟨t, h1, h2⟩ := h
  refine ⟨t, h1, fun aS B s F H σ R E q => h2 aS B s F H σ R E (q.bind.imp fun z s1 q1 => ?_)⟩
  have q2 : OcOk aS c.K B s1 E (out' (g z)) := q1
  rw [hg] at q2
  exact q2
theorem DS.eq {n n' : M γ} (h : DS c sts ρ out n) (q : n = n') : DS c sts ρ out n' := q ▸ h
theorem loop_fold {ε : Type} (f : δ → α → M δ) (k : δ → M γ) (j : ε → M γ) : ∀ (xs : List α) (z : δ), (loopM (fun z x => f z x >>= fun z' => pure (Sum.inl z' : δ ⊕ ε)) xs z >>= fun r => match r with | .inl z => k z | .inr y => j y) = (foldM f xs z >>= k)
  | [], z => by show (pure (Sum.inl z) >>= fun r => _) = (pure z >>= k); rw [pure_bind, pure_bind]
  | x :: xs, z => by
    show ((((f z x >>= fun z' => pure (Sum.inl z')) >>= fun r => _) >>= fun r => _) : M γ) = ((f z x >>= fun z' => foldM f xs z') >>= k)
    rw [bind_assoc, bind_assoc, bind_assoc]
    congr 1
    funext z'
    rw [pure_bind]
    exact loop_fold f k j xs z'
/-- for: no way out of it -/
theorem ds_forF [Cool c] {tg : Expr} {ρl : δ → List Sl} {js : List Nat} {bind : α → List Sl → List Sl} {mi : M (List α)} {z0 : δ} {g : δ → α → M δ} {k : δ → M γ}
    (hit : DI c tg e true ρ enc mi) (hg : DG c tg js enc bind) (w : Weak ρ (ρl z0)) (hb : ∀ z x, DS c sts (bind x (ρl z)) (fun z => .nx (ρl z)) (g z x)) (hr : ∀ z, DS c rest (ρl z) out (k z))
    (hs : ∀ env x, foldedSetIterable e env x = pure x := by intro _ _; rfl) :
    DS c (.For tg e sts [] pos :: rest) ρ out (mi >>= fun xs => foldM g xs z0 >>= k) :=
  (ds_for (outR := fun e : Empty => e.elim) (inj := fun e : Empty => e.elim) (f := fun z x => g z x >>= fun z' => pure (.inl z')) (k := k) (fun e => e.elim) (fun e => e.elim) hit hg w (fun z x => (hb z x).map Sum.inl fun _ => rfl) hr hs).eq (by
    congr 1
    funext xs
    refine Eq.trans ?_ (loop_fold g k (fun e : Empty => e.elim) xs z0)
    congr 1
    funext r
    cases r with
    | inl z => rfl
    | inr y => exact y.elim)
/-- on with k, or out -/
def bindS {δ β γ : Type} (r : M (δ ⊕ β)) (k : δ → M γ) (j : β → γ) : M γ := r >>= fun r => match r with | .inl z => k z | .inr y => pure (j y)
theorem ds_forR [Cool c] {tg : Expr} {ρl : δ → List Sl} {outR : β → Oc} {inj : β → γ} {js : List Nat} {bind : α → List Sl → List Sl} {mi : M (List α)} {z0 : δ} {g : δ → α → M (δ ⊕ β)} {k : δ → M γ}
    (hR : ∀ b, isRt (outR b) = true) (hi : ∀ b, out (inj b) = outR b) (hit : DI c tg e true ρ enc mi) (hg : DG c tg js enc bind) (w : Weak ρ (ρl z0)) (hb : ∀ z x, DS c sts (bind x (ρl z)) (ocT ρl outR) (g z x)) (hr : ∀ z, DS c rest (ρl z) out (k z))
    (hs : ∀ env x, foldedSetIterable e env x = pure x := by intro _ _; rfl) :
    DS c (.For tg e sts [] pos :: rest) ρ out (mi >>= fun xs => bindS (loopM g xs z0) k inj) :=
  (ds_for hR hi hit hg w hb hr hs).eq (by
    congr 1
    funext xs
    unfold bindS
    congr 1
    funext r
    cases r <;> rfl)
/-- e, a statement -/
theorem ds_expr {k : α → M γ} (he : DM c e ρ enc m) (hr : ∀ z, DS c rest ρ out (k z)) (hs : ∀ env, swapsWith e none pos.line env = pure false := by intro _; rfl) : DS c (.Expr e pos :: rest) ρ out (m >>= k) := by
  obtain ⟨t, h1, h2⟩ := he
  obtain ⟨u, h3, h4⟩ := DS.all (f := fun _ => ρ) hr
  exact ⟨_, fun X I => pss_cons (ps_expr (h1 X I) (hs _)) (h3 X I), fun aS B s F H σ R E q => h2 aS B s F H σ R _ (q.bind.imp fun z s1 q1 v F1 H1 f1 hs1 r1 => h4 z aS B s1 F1 H1 σ (R.step f1 hs1) E q1)⟩
/-- x.append(e), e may change lists of one's own -/
theorem ds_appendE (i : Nat) (xs : List α) {g : β → α} {n : M β} {k : β → M γ} {ρ' : β → List Sl} (hN : c.N[i]? = some x) (hv : Vis c.sc x) (h0 : ρ[i]? = some (.ow (xs.map enc))) (he : DE c e ρ (fun p => enc (g p)) n ρ') (hρ : ∀ a, (ρ' a)[i]? = some (.ow (xs.map enc)))
    (hr : ∀ a, DS c rest ((ρ' a).set i (.ow ((xs ++ [g a]).map enc))) out (k a)) (hs : NoStar e := by intro _ _; rfl) (hl : (p3.endLine == p4.line) = true := by rfl) (hd : (x == ("__debug__" : Str)) = false := by decide) (hcd : (x == ("__classdict__" : Str)) = false := by decide) :
    DS c (.Expr (.Call (.Attribute (.Name x p2) "append" p3) [e] [] p4) pos :: rest) ρ out (n >>= fun a => chk (xs.length + 1) >>= fun _ => k a) := by
  obtain ⟨t, h1, h2⟩ := he
  obtain ⟨u, h3, h4⟩ := DS.all hr
  refine ⟨tSeq (tDrop (tBM c.K.K "list" rAppend (tVar i) (tCons t tNil))) u, fun X I => ?_, fun aS B s F H σ R E q => ?_⟩
  · rw [← I.K]
    exact pss_cons (ps_expr (pe_bm PySem.F.plainAttrs_list PySem.F.slot_list_append PySem.F.type_list_append mt_append (pe_var (i := i) (by rw [I.N]; exact hN) (by rw [I.sc]; exact hv) hd hcd) (pa_cons (h1 X I) pa_nil (hs _ _)) rfl (few1 hs _) hl (hs _ _) rfl)) (h3 X I)
  obtain ⟨p, vs, e1, nb, ns, hF, hH, hz, r⟩ := R.own h0
  refine ⟨_, e1, ow_sq hH, h2 aS B s F H σ R _ (q.bind.imp fun a s1 q1 v F1 H1 R1 r1 => ?_)⟩
  obtain ⟨hc, q2⟩ := q1.chk
  obtain ⟨vs', nb', ns', hF', hH', hz', r'⟩ := R1.ownAt (hρ a) e1
  have hl' : vs'.length = xs.length := by rw [r'.length, List.length_map]
  refine ⟨p, vs', v, rfl, rfl, hH', by rw [hl']; exact lim_lt (by omega), ?_⟩
  exact h4 a aS B s1 F1 _ σ (R1.mut (vs := vs') (m := (xs ++ [g a]).map enc) (ws := vs' ++ [v]) (hρ a) e1 (by rw [List.length_map, List.length_append]; exact hc) (by
    rw [List.map_append]
    exact r'.append (.cons r1 .nil))) E q2
/-- if t: raise .. -/
theorem ds_ifStuck {mt : M Bool} {mr : M γ} (ht : DTM c e ρ mt) (hr : DS c rest ρ out mr) : DS c (.If e sts [] pos :: rest) ρ out (mIf mt stuck mr) :=
  (ds_ifR (outR := fun e : Empty => e.elim) (inj := fun e : Empty => e.elim) (fun e => e.elim) (fun e => e.elim) ht ds_never hr).eq (by rw [stuck_bind])
/-! expressions -/
theorem isn_dec {v : V} {d : D} (r : Rep K F v d) : decide (v = V.non) = isN d := by
  cases r <;> first | rfl | exact decide_eq_false (fun z => nomatch z)
theorem dt_isnotN (ha : DM c a ρ enc m) : DTM c (.Compare a [.IsNot] [.Constant .none 0 p2] pos) ρ (m >>= fun z => pure (!isN (enc z))) := by
  obtain ⟨t, h1, h2⟩ := ha
  refine ⟨_, fun X I => pt_cmpR op_notN (h1 X I) pe_non (nomark _), fun aS B s F H σ R Q q => h2 aS B s F H σ R _ (q.bind.imp fun z s1 q1 v F1 H1 f1 hs1 r1 => ⟨rfl, _, by rw [isn_dec r1], ?_⟩)⟩
  have q2 : ∀ F' H', Fr aS F H F' H' → SrcAt aS c.K s1 F' H' → Q (!isN (enc z)) H' := q1
  exact q2 F1 H1 f1 hs1
def maxI (i j : Int) : Int := if j > i then j else i
theorem dm_max2 [Cool c] {ma mb : M Int} (hg : GI c "max") (hm : c.mg "max" = none) (ha : DM c a ρ D.int ma) (hb : DM c b ρ D.int mb) (hs : NoStar a := by intro _ _; rfl) (hs2 : NoStar b := by intro _ _; rfl) : DM c (.Call (.Name "max" p2) [a, b] [] pos) ρ D.int (opI maxI ma mb) :=
  (dm_callB (eA := fun p : Int × Int × Unit => D.int p.1 :: D.int p.2.1 :: []) (f := fun p => pure (maxI p.1 p.2.1)) (eR := D.int) (fun X I => call_max2 (I.calm Cool.h)) (fun p s P h => ⟨_, h, fun aS F H vs e r Q q => by
    obtain ⟨v, w, rfl, r1, r2⟩ := arg2 r
    exact ⟨p.1, p.2.1, by rw [r1.int_inv, r2.int_inv], rep_int e q⟩⟩) hg hm (by decide +kernel) (dam_cons ha.toN (dam_cons hb.toN dam_nil hs2) hs) (hs := hs) (hpl := fun env => by rw [hs2]; rfl)).eq (by simp [opI])
/-- e[k], e a tuple of parts -/
theorem dm_part {k : Nat} {l : α → List D} {g : α → β} (hq : ∀ z, seqD (enc z) = some (l z)) (hk : ∀ z, (l z)[k]? = some (eb (g z))) (ha : DM c a ρ enc m) : DM c (.Subscript a (.Constant (.int (k : Int)) 0 p3) pos) ρ eb (m >>= fun z => pure (g z)) := by
  obtain ⟨t, h1, h2⟩ := ha
  refine ⟨_, fun X I => pe_ix (r := rIxS c.K.K) (by rw [← I.K]; exact ix_both) (h1 X I) pe_int (by intro _ _; rfl), fun aS B s F H σ R Q q => h2 aS B s F H σ R _ (q.bind.imp fun z s1 q1 v F1 H1 f1 hs1 r1 => ?_)⟩
  have q2 : ∀ v F' H', Fr aS F H F' H' → SrcAt aS c.K s1 F' H' → Rep c.K F' v (eb (g z)) → Q v H' := q1
  exact o2_ix (hq z) (atI_nat (hk z)) aS F1 H1 v _ f1.fh (.of r1) (.of (.int _)) Q fun u F2 H2 f2 r2 => q2 u F2 H2 (f1.trans f2.fr) (hs1.stepP f2) r2
theorem do_callTy {T : String} {r : List V → Hp → VK → Prop} {eA : α → List D} {eR : γ → List D} {f : α → M γ} (hc : ∀ X, c.Is X → CallR X (.type T) r) (ho : ∀ (a : α) (s : List D) (P : γ → List D → Prop), Okk (f a s) P → ∃ g, P g s ∧ OpCL c.K r (eA a) (eR g))
    (hg : GI c x) (hm : c.mg x = none) (hv : bootBuiltins x = some (.type T)) (ha : DAM c ρ (e :: es) eA m)
    (hn : x ≠ "__name__" := by decide) (hdb : (x == ("__debug__" : Str)) = false := by decide) (hs : NoStar e := by intro _ _; rfl) (hpl : ∀ env, (backTo pos (starEach es env)).any (·.1) = false := by intro _; rfl) :
    DO c (.Call (.Name x p2) (e :: es) [] pos) ρ eR (m >>= f) := by
  obtain ⟨t, h1, h2⟩ := ha
  exact ⟨_, fun X I => pe_callTy (hc X I) (gl_of I hg) (by rw [I.mg]; exact hm) hv (h1 X I) hn hdb (hs _ _) (hpl _), evo_call h2 ho⟩
theorem do_call1T {T : String} {r : List V → Hp → VK → Prop} {eR : γ → List D} {f : α → M γ} (hc : ∀ X, c.Is X → CallR X (.type T) r) (ho : ∀ (x : α) (s : List D) (P : γ → List D → Prop), Okk (f x s) P → ∃ g, P g s ∧ OpCL c.K r [enc x] (eR g))
    (hg : GI c x) (hm : c.mg x = none) (hv : bootBuiltins x = some (.type T)) (ha : DN c a ρ enc m) (hs : NoStar a := by intro _ _; rfl) (hn : x ≠ "__name__" := by decide) (hdb : (x == ("__debug__" : Str)) = false := by decide) :
    DO c (.Call (.Name x p2) [a] [] pos) ρ eR (m >>= f) :=
  (do_callTy (eA := fun p : α × Unit => enc p.1 :: []) (f := fun p => f p.1) hc (fun p s P h => ho p.1 s P h) hg hm hv (dam_cons ha dam_nil hs) hn hdb hs).eq (by simp)
theorem b_listT : bootBuiltins "list" = some (.type "list") := by decide +kernel
/-- list(xs) -/
theorem do_listT {mx : M (List α)} (hg : GI c "list") (hm : c.mg "list" = none) (ha : DN c a ρ (eT enc) mx) (hs : NoStar a := by intro _ _; rfl) : DO c (.Call (.Name "list" p2) [a] [] pos) ρ (fun l => l.map enc) mx :=
  (do_call1T (f := fun l => pure l) cl_lst (fun l s P h => ⟨l, h, oc_lst rfl⟩) hg hm b_listT ha hs).eq (by simp)
theorem dm_mk2 [Cool c] {j : Nat} {α0 α1 : Type} {e0 : α0 → D} {e1 : α1 → D} {m0 : M α0} {m1 : M α1} {a0 a1 : Expr} {f : α0 → α1 → M R} {fo : R → List (Str × D)} {eo : R → D} (hf : MkI c.g j x (spS c.K x (fun _ => []) (aC e0 (aC e1 aN)) (fun _ r => fo r) (fun p => f p.1 p.2.1))) (hk : j + 1 ≤ c.k) (hg : GI c x) (ho : ∀ r, eo r = .obj x (fo r)) (h0 : DM c a0 ρ e0 m0) (h1 : DM c a1 ρ e1 m1) (s0 : NoStar a0 := by intro _ _; rfl) (s1 : NoStar a1 := by intro _ _; rfl) (hdb : (x == ("__debug__" : Str)) = false := by decide) :
    DM c (.Call (.Name x p2) [a0, a1] [] pos) ρ eo (m0 >>= fun x0 => m1 >>= fun x1 => f x0 x1) :=
  (dm_make (w := fun _ b => b) hf hk hg (fun _ b => ho b) (df_cons h0 (df_cons h1 df_nil s1) s0) s0 (by intro env; exact nostars1 s1) hdb).eq (by simp)
theorem ds_me2 [Cool c] (i : Nat) (tg : Bool) (n : Str) (fs : List (Str × D)) {j : Nat} {α0 α1 : Type} {e0 : α0 → D} {e1 : α1 → D} {m0 : M α0} {m1 : M α1} {a0 a1 : Expr} {f : α0 → α1 → M R} {fo : R → List (Str × D)} {k : R → M γ} {mn : Str} {fs0 : α0 × α1 × Unit → List (Str × D)} (hf : MtI c.g j n mn (spS c.K n fs0 (aC e0 (aC e1 aN)) (fun _ r => fo r) (fun p => f p.1 p.2.1))) (hk : j ≤ c.k) (hN : c.N[i]? = some x) (hv : Vis c.sc x) (hO : ρ[i]? = some (.oo (.ob tg n fs))) (hfs : ∀ a, fs0 a = fs) (hlm : fs.lookup mn = none) (h0 : DM c a0 ρ e0 m0) (h1 : DM c a1 ρ e1 m1)
    (hr : ∀ w, DS c rest (ρ.set i (.oo (.ob tg n (fo w)))) out (k w)) (s0 : NoStar a0 := by intro _ _; rfl) (s1 : NoStar a1 := by intro _ _; rfl) (hd : (x == ("__debug__" : Str)) = false := by decide) (hcd : (x == ("__classdict__" : Str)) = false := by decide)
    (ht : ∀ env, ∃ pl : Sem Bool, eval (.Call (.Attribute (.Name x p2) mn p3) [a0, a1] [] p4) env = (do
      let ov ← eval (.Name x p2) env
      standAt p3.atName
      let (f, first) ← holding [ov] (getMethod ov mn pl)
      callWith p4 f first (backTo p4 (starEach [a0, a1] env)) (backToKw p4 (keywordEach [] env))) := by intro _; exact ⟨_, rfl⟩) :
    DS c (.Expr (.Call (.Attribute (.Name x p2) mn p3) [a0, a1] [] p4) pos :: rest) ρ out (m0 >>= fun x0 => m1 >>= fun x1 => f x0 x1 >>= k) :=
  ds_methO i tg n fs (k := fun _ w => k w) hf hk hN hv hO hfs hlm (df_cons h0 (df_cons h1 df_nil s1) s0) (fun _ w => hr w) s0 (by intro env; exact nostars1 s1) hd hcd ht
end
section
variable {A R : Type} {x : Str}
theorem FnI.val2 {g : Gx} {qual : Str} {st : Stmt} {f0 : Addr} {fd : FuncData} {N ps : List Str} {k : Nat} {encA : A → List Ar} {encB : R → D} {f : A → M R} (ρ0 : A → List Sl) (h0 : ∀ a, startS N (encA a) = ρ0 a) (Fu : Fun g.K.K x qual st f0 fd) (gx : g.mg x = some (.ref f0)) (S : FnScope N ps (defScope st)) (bd : Binds g.K.K fd ps [])
    (hl : ∀ a, (encA a).length = ps.length) (body : ∀ a, DS (cxD g N (defScope st) k) (defBody st) (ρ0 a) (outV encB) (f a)) : FnI g (k + 1) x (spM g.K encA encB f) := FnI.val Fu gx S bd hl fun a => by rw [h0]; exact body a
theorem FnI.own2 {g : Gx} {qual : Str} {st : Stmt} {f0 : Addr} {fd : FuncData} {N ps : List Str} {k : Nat} {encA : A → List Ar} {encB : R → List D} {f : A → M R} (ρ0 : A → List Sl) (h0 : ∀ a, startS N (encA a) = ρ0 a) (Fu : Fun g.K.K x qual st f0 fd) (gx : g.mg x = some (.ref f0)) (S : FnScope N ps (defScope st)) (bd : Binds g.K.K fd ps [])
    (hl : ∀ a, (encA a).length = ps.length) (body : ∀ a, DS (cxD g N (defScope st) k) (defBody st) (ρ0 a) (outL encB) (f a)) : FnI g (k + 1) x (spO g.K encA encB f) := FnI.own Fu gx S bd hl fun a => by rw [h0]; exact body a
theorem FnI.proc2 {g : Gx} {qual : Str} {st : Stmt} {f0 : Addr} {fd : FuncData} {N ps : List Str} {k : Nat} {encA : A → List Ar} {f : A → M Unit} {ρe : A → List Sl} (ρ0 : A → List Sl) (h0 : ∀ a, startS N (encA a) = ρ0 a) (Fu : Fun g.K.K x qual st f0 fd) (gx : g.mg x = some (.ref f0)) (S : FnScope N ps (defScope st)) (bd : Binds g.K.K fd ps [])
    (hl : ∀ a, (encA a).length = ps.length) (body : ∀ a, DS (cxD g N (defScope st) k) (defBody st) (ρ0 a) (fun _ => .nx (ρe a)) (f a)) : FnI g (k + 1) x (spM g.K encA eU f) := FnI.proc Fu gx S bd hl fun a => by rw [h0]; exact body a
theorem MtI.ofO2 {g : Gx} {k : Nat} {n m qual : Str} {st : Stmt} {C f0 : Addr} {fd : FuncData} {N ps : List Str} {fs0 : A → List (Str × D)} {encA : A → List Ar} {fs1 : A → R → List (Str × D)} {h : A → M R} {ρe : A → R → List Sl} (ρ0 : A → List Sl) (h0 : ∀ a, startO N n (fs0 a) (encA a) = ρ0 a) (hc : g.K.cm n = some C) (hm : Meth g.K.K C m f0) (Fu : Fun g.K.K m qual st f0 fd) (S : FnScope N ps (defScope st)) (bd : Binds g.K.K fd ps [])
    (hl : ∀ a, (encA a).length + 1 = ps.length) (he : ∀ a b, (ρe a b)[0]? = some (.oo (.ob true n (fs1 a b)))) (body : ∀ a, DS (cxD g N (defScope st) k) (defBody st) (ρ0 a) (fun b => .nx (ρe a b)) (h a)) : MtI g (k + 1) n m (spS g.K n fs0 encA fs1 h) := MtI.ofO hc hm Fu S bd hl he fun a => by rw [h0]; exact body a
theorem MkI.of2 {g : Gx} {k : Nat} {n qual : Str} {st : Stmt} {C f0 : Addr} {fd : FuncData} {N ps : List Str} {encA : A → List Ar} {fs1 : A → R → List (Str × D)} {h : A → M R} {ρe : A → R → List Sl} (ρ0 : A → List Sl) (h0 : ∀ a, startO N n [] (encA a) = ρ0 a) (hc : g.K.cm n = some C) (hm : Mk g.K.K C f0) (gx : g.mg n = some (.ref C)) (Fu : Fun g.K.K "__init__" qual st f0 fd) (S : FnScope N ps (defScope st)) (bd : Binds g.K.K fd ps [])
    (hl : ∀ a, (encA a).length + 1 = ps.length) (he : ∀ a b, (ρe a b)[0]? = some (.oo (.ob true n (fs1 a b)))) (body : ∀ a, DS (cxD g N (defScope st) k) (defBody st) (ρ0 a) (fun b => .nx (ρe a b)) (h a)) : MkI g (k + 1) n (spS g.K n (fun _ => []) encA fs1 h) := MkI.of hc hm gx Fu S bd hl he fun a => by rw [h0]; exact body a
end
end Dl

/-! Dl, part S: a law from its walk. -/
namespace Dl
open PySem PySem.Spec PyProof.Rows L2
open Evl (Ex)
def spLaw (K : PySem.W.Frag) (T : List (Addr × Str)) : Sp := fun vs H Q _ => LamX.Tabs T H ∧ ∃ (a : Addr) (ns : List Int), vs = [.ref a] ∧ SqL K H a (ns.map V.int) ∧ ns.length ≤ 63 ∧ ∀ H', Q (.bl true) H'
/-- all but the tables -/
def noTb (H : Hp) : Hp := fun a => match H a with | some (.tbl _) => none | o => o
theorem noTb_l {K : PySem.W.Frag} {H : Hp} {a : Addr} {xs : List V} (h : SqL K H a xs) : SqL K (noTb H) a xs := by
  rcases h with (h | ⟨o, h⟩) | h
  · exact .inl (.inl (by unfold noTb; rw [h]))
  · exact .inl (.inr ⟨o, by unfold noTb; rw [h]⟩)
  · exact .inr h
theorem law_fn {x qual : Str} {g : Gx} {st : Stmt} {f0 : Addr} {fd : FuncData} {N : List Str} {y : Str} {k : Nat} {f : List Int → M Bool} (ρ0 : List Int × Unit → List Sl) (h0 : ∀ a, startS N (aC eScr aN a) = ρ0 a) (Fu : Fun g.K.K x qual st f0 fd) (S : FnScope N [y] (defScope st))
    (body : ∀ a : List Int × Unit, DS (cxD g N (defScope st) k) (defBody st) (ρ0 a) (outV D.bl) (f a.1)) (hlaw : ∀ ns : List Int, ns.length ≤ 63 → Okk (f ns []) fun b _ => b = true) : FnOk g.P g.w g.K.K g.mg g.base CX0 (k + 1) f0 fd [y] (spLaw g.K.K g.K.T) := by
  refine Fu.ok S (fun vs H Q E h => ?_) fun cdv Ar outer s H vs Q E hr h => ?_
  · obtain ⟨_, a, ns, rfl, _⟩ := h
    rfl
  · obtain ⟨tb, a, ns, rfl, hS, hl, q⟩ := h
    obtain ⟨t, h1, h2⟩ := body (ns, ())
    have e0 : Ex (noTb H) H := fun b o hb => by
      unfold noTb at hb
      split at hb
      · cases hb
      · exact hb
    have hS : SqL g.K.K (noTb H) a (ns.map V.int) := noTb_l hS
    have hR : Rep g.K (noTb H) (.ref a) (eScr ns) := Rep.scr hS (by rw [List.length_map]; exact Nat.le_trans hl (by decide)) (by rw [List.length_map, List.length_map]) fun i v d e1 e2 => by
      rw [List.getElem?_map] at e1 e2
      cases hn : ns[i]? with
      | none => rw [hn] at e1; cases e1
      | some z => rw [hn] at e1 e2; cases e1; cases e2; exact .int _
    have R0 : REnv none g.K ⟨noTb H, H, noTb H, none⟩ [] (noTb H) H (L2.start N [.ref a]) (startS N (aC eScr aN (ns, ()))) := start_env e0 ⟨tb, fun p hp => by obtain ⟨ps, h1, _⟩ := tb p hp; show noTb H p.1 = none; unfold noTb; rw [h1], fun b z => nomatch z⟩ (.cons hR .nil)
    rw [h0] at R0
    refine ⟨t, h1 _ (body_is S.nd hr), h2 none _ [] _ H _ R0 _ ((hlaw ns hl).imp fun b s1 hb v F' H' f' hs' r' => ?_)⟩
    subst hb
    have : v = .bl true := r'.bl_inv
    rw [this]
    exact q H'
theorem law_walk {l : PySem.W.OpenLaw} {q : Program} {loose : List Str} {XP : (Str → Option Value) → Heap → Prop} {YP : World → Heap → Prop} {d : DefRec} {K : Params → PySem.W.Frag} {x : Str} {k : Nat} (hn : l.most = some 63) (hdf : d.params.defaults = []) (hr : Room k callerA)
    (hY : ∀ (w : World) (h : Heap), YP w h → (K w.params).In h)
    (F : ∀ (w : World) (mg : Str → Option Value) (fa : Addr) (h : Heap), (K w.params).In h → h.Ns mainGlobals mg → mg d.name = some (.ref fa) →
      ∃ fd : FuncData, (∀ (s : Shared) (u : Value), BindsTo s fd ⟨[u], []⟩ [(x, u)]) ∧ ∀ base : Heap, (K w.params).In base → base.Ns mainGlobals mg → FnOk l.prog w (K w.params) mg base CX0 k fa fd [x] (spLaw (K w.params) [])) :
    PySem.W.WalkO q loose XP YP l.row.toRowW d [] (fun f vs => PySem.call f vs) :=
  L2.walk_of (n := 63) (CX := fun _ => CX0) (sp := fun w => spLaw (K w.params) []) hn (by decide) hdf hr hY F (fun _ _ a ns hl _ hS => ⟨fun p hp => absurd hp List.not_mem_nil, a, ns, rfl, hS, hl, fun _ => rfl⟩) fun _ _ _ _ _ z => z
end Dl

/-! Dl, part T: what mirrors answer: runs over a source that stays of one form. -/
namespace Dl
open PySem PySem.Spec PyProof.Rows L2
/-- from each source of the form S it comes to an answer of which Q, the source still of this form -/
def Wp {α : Type} (S : List D → Prop) (m : M α) (Q : α → Prop) : Prop := ∀ s, S s → Okk (m s) fun a s' => S s' ∧ Q a
section
variable {α β γ δ : Type} {S : List D → Prop} {m : M α} {P Q : α → Prop}
theorem Wp.mono (h : Wp S m P) (k : ∀ a, P a → Q a) : Wp S m Q := fun s hs => (h s hs).imp fun a s' q => ⟨q.1, k a q.2⟩
theorem Wp.pure {a : α} (h : Q a) : Wp S (pure a) Q := fun s hs => ⟨hs, h⟩
theorem okk_bind {f : α → M β} {s : List D} {R : β → List D → Prop} (h : Okk (m s) fun a s' => Okk (f a s') R) : Okk ((m >>= f) s) R := by
  show Okk (match m s with | .ok a s' => f a s' | .stuck => .stuck) R
  cases e : m s with
  | ok a s' => rw [e] at h; exact h
  | stuck => rw [e] at h; exact h.elim
theorem Wp.bind {f : α → M β} {R : β → Prop} (h : Wp S m P) (k : ∀ a, P a → Wp S (f a) R) : Wp S (m >>= f) R := fun s hs => okk_bind ((h s hs).imp fun a s' q => k a q.2 s' q.1)
theorem Wp.and (h : Wp S m P) (k : Wp S m Q) : Wp S m fun a => P a ∧ Q a := fun s hs => by
  have h1 := h s hs
  have h2 := k s hs
  cases e : m s with
  | ok a s' => rw [e] at h1 h2; exact ⟨h1.1, h1.2, h2.2⟩
  | stuck => rw [e] at h1; exact h1.elim
theorem Wp.eq {m' : M α} (h : Wp S m' Q) (e : m = m') : Wp S m Q := e ▸ h
theorem Wp.mIf {t : M Bool} {a b : M α} {T : Bool → Prop} (ht : Wp S t T) (ha : T true → Wp S a Q) (hb : T false → Wp S b Q) : Wp S (mIf t a b) Q := by
  unfold Dl.mIf
  refine ht.bind fun p hp => ?_
  cases p with
  | true => exact ha hp
  | false => exact hb hp
theorem mIf_true {a b : M α} : Dl.mIf (Pure.pure true) a b = a := by unfold Dl.mIf; rw [pure_bind]; rfl
theorem mIf_false {a b : M α} : Dl.mIf (Pure.pure false) a b = b := by unfold Dl.mIf; rw [pure_bind]; rfl
theorem mIf_pure {p : Bool} {a b : M α} : Dl.mIf (Pure.pure p) a b = if p then a else b := by unfold Dl.mIf; rw [pure_bind]
theorem mAnd_pure {p : Bool} {b : M Bool} : mAnd (Pure.pure p) b = if p then b else Pure.pure false := by unfold mAnd; rw [pure_bind]
theorem mOr_pure {p : Bool} {b : M Bool} : mOr (Pure.pure p) b = if p then Pure.pure true else b := by unfold mOr; rw [pure_bind]
theorem mAnd_pure2 {p q : Bool} : mAnd (Pure.pure p) (Pure.pure q) = Pure.pure (p && q) := by rw [mAnd_pure]; cases p <;> rfl
theorem mOr_pure2 {p q : Bool} : mOr (Pure.pure p) (Pure.pure q) = Pure.pure (p || q) := by rw [mOr_pure]; cases p <;> rfl
theorem opI_pure {g : Int → Int → Int} {i j : Int} : opI g (Pure.pure i) (Pure.pure j) = Pure.pure (g i j) := by unfold opI; rw [pure_bind, pure_bind]
theorem opB_pure {g : Int → Int → Bool} {i j : Int} : opB g (Pure.pure i) (Pure.pure j) = Pure.pure (g i j) := by unfold opB; rw [pure_bind, pure_bind]
theorem mChain_pure {g g' : Int → Int → Bool} {i j k : Int} : mChain g g' (Pure.pure i) (Pure.pure j) (Pure.pure k) = Pure.pure (g i j && g' j k) := by
  unfold mChain
  rw [pure_bind, pure_bind]
  cases g i j
  · rfl
  · rw [if_pos rfl, pure_bind, Bool.true_and]
theorem consM_pure {a : α} {l : List α} : consM (Pure.pure a) (Pure.pure l) = Pure.pure (a :: l) := by unfold consM; rw [pure_bind, pure_bind]
theorem nilM_pure : (nilM : M (List α)) = Pure.pure [] := rfl
theorem chk_ok {n : Nat} (h : n ≤ LIM) : chk n = Pure.pure () := if_pos h
theorem ofO_some {a : α} : ofO (some a) = Pure.pure a := rfl
theorem mMul_ok {i j : Int} (h : CMul i j) : mMul i j = Pure.pure (i * j) := if_pos h
theorem mDiv_ok {i j : Int} (h : CDiv i j) : mDiv i j = Pure.pure (i / j) := if_pos h
theorem mMod_ok {i j : Int} (h : 0 < j) : mMod i j = Pure.pure (i % j) := if_pos h
theorem mPow_ok {i j : Int} (h : CPow i j) : mPow i j = Pure.pure (i ^ j.toNat) := if_pos h
theorem mShl_ok {i j : Int} (h : CPow i j) : mShl i j = Pure.pure (i * 2 ^ j.toNat) := if_pos h
theorem mShr_ok {i j : Int} (h : 0 ≤ j) : mShr i j = Pure.pure (i / 2 ^ j.toNat) := if_pos h
theorem mRg_ok {a b : Int} (h1 : -1000000 ≤ a) (h2 : a ≤ 1000000) (h3 : -1000000 ≤ b) (h4 : b ≤ 1000000) (h5 : b - a ≤ 1000000) : mRg a b = Pure.pure (rg a b) := by
  rw [mRg_eq]
  refine if_pos ?_
  unfold rgOk
  simp only [Bool.and_eq_true, decide_eq_true_eq]
  refine ⟨⟨⟨⟨?_, ?_⟩, ?_⟩, ?_⟩, ?_⟩ <;> first | omega | (show _ ≤ (1000000 : Nat); omega)
theorem mem_rg {a b x : Int} : x ∈ rg a b ↔ a ≤ x ∧ x < b := by
  unfold rg
  rw [List.mem_map]
  constructor
  · rintro ⟨i, hi, rfl⟩
    rw [List.mem_range] at hi
    omega
  · intro h
    exact ⟨(x - a).toNat, by rw [List.mem_range]; omega, by omega⟩
/-! comprehensions -/
theorem lcM_pure {p : α → M Bool} {f : α → M β} {q : α → Bool} {g : α → β} : ∀ {l : List α}, (∀ x ∈ l, p x = Pure.pure (q x)) → (∀ x ∈ l, q x = true → f x = Pure.pure (g x)) → lcM p f l = Pure.pure ((l.filter q).map g)
  | [], _, _ => rfl
  | x :: l, hp, hf => by
    have ih := lcM_pure (l := l) (fun y hy => hp y (List.mem_cons_of_mem _ hy)) fun y hy => hf y (List.mem_cons_of_mem _ hy)
    unfold lcM
    rw [hp x List.mem_cons_self, pure_bind, ih]
    cases hq : q x with
    | true => rw [if_pos rfl, hf x List.mem_cons_self hq, pure_bind, pure_bind, List.filter_cons_of_pos hq]; rfl
    | false => rw [if_neg Bool.false_ne_true, List.filter_cons_of_neg (by rw [hq]; exact Bool.false_ne_true)]
theorem lcM_map {f : α → M β} {g : α → β} {l : List α} (hf : ∀ x ∈ l, f x = Pure.pure (g x)) : lcM (fun _ => Pure.pure true) f l = Pure.pure (l.map g) := by
  rw [lcM_pure (q := fun _ => true) (g := g) (fun _ _ => rfl) fun x hx _ => hf x hx, List.filter_eq_self.mpr fun _ _ => rfl]
/-- drawn items -/
theorem lcM_wp {f : α → M β} {R : α → β → Prop} : ∀ {l : List α}, (∀ x ∈ l, Wp S (f x) (R x)) → Wp S (lcM (fun _ => Pure.pure true) f l) fun r => r.length = l.length ∧ ∀ y ∈ r, ∃ x ∈ l, R x y
  | [], _ => Wp.pure ⟨rfl, fun y hy => nomatch hy⟩
  | x :: l, h => by
    unfold lcM
    rw [pure_bind, if_pos rfl]
    refine (h x List.mem_cons_self).bind fun y hy => (lcM_wp fun z hz => h z (List.mem_cons_of_mem _ hz)).bind fun r hr => Wp.pure ⟨by rw [List.length_cons, List.length_cons, hr.1], fun z hz => ?_⟩
    rcases List.mem_cons.mp hz with rfl | hz
    · exact ⟨x, List.mem_cons_self, hy⟩
    · obtain ⟨w, hw, q⟩ := hr.2 z hz
      exact ⟨w, List.mem_cons_of_mem _ hw, q⟩
/-! loops: I tells of what is left and of the state -/
theorem foldM_wp {f : δ → α → M δ} (I : List α → δ → Prop) (step : ∀ x xs z, I (x :: xs) z → Wp S (f z x) (I xs)) : ∀ {l : List α} {z : δ}, I l z → Wp S (foldM f l z) (I [])
  | [], z, h => Wp.pure h
  | x :: l, z, h => by
    unfold foldM
    exact (step x l z h).bind fun z' h' => foldM_wp I step h'
theorem loopM_wp {f : δ → α → M (δ ⊕ β)} (I : List α → δ → Prop) (R : β → Prop) (step : ∀ x xs z, I (x :: xs) z → Wp S (f z x) fun r => match r with | .inl z' => I xs z' | .inr y => R y) : ∀ {l : List α} {z : δ}, I l z → Wp S (loopM f l z) fun r => match r with | .inl z' => I [] z' | .inr y => R y
  | [], z, h => Wp.pure h
  | x :: l, z, h => by
    unfold loopM
    refine (step x l z h).bind fun r h' => ?_
    cases r with
    | inl z' => exact loopM_wp I R step h'
    | inr y => exact Wp.pure h'
theorem bindS_wp {r : M (δ ⊕ β)} {k : δ → M γ} {j : β → γ} {I : δ → Prop} {R : β → Prop} {T : γ → Prop} (h : Wp S r fun r => match r with | .inl z => I z | .inr y => R y) (hk : ∀ z, I z → Wp S (k z) T) (hj : ∀ y, R y → T (j y)) : Wp S (bindS r k j) T := by
  unfold bindS
  refine h.bind fun x hx => ?_
  cases x with
  | inl z => exact hk z hx
  | inr y => exact Wp.pure (hj y hx)
end
/-! the source of five numbers -/
def Src5 (s : List D) : Prop := ∃ a b c d e : Int, s = [.int a, .int b, .int c, .int d, .int e]
theorem isDs_src5 (s : List D) (h : Src5 s) : isDs s = false := by
  obtain ⟨a, b, c, d, e, rfl⟩ := h
  rfl
end Dl

/-! Dl, part U: dicts: keys, reading, going through them, new ones. -/
namespace Dl
open PySem PySem.Spec PyProof.Rows L2
open Evl (Ex)

/-! ### locking -/
def tLk (t : TE) : TE := fun σ H Q => t σ H fun v H1 => ∃ d u, H1 d = some u ∧ Mut (some u) ∧ ∀ od, Q v (upd H1 d (.frz od u))
theorem pe_lk {X : Cx} {e : Expr} {t : TE} (h : PE X e t) : PE X e (tLk t) :=
  ⟨fun pins s σ H Q I hw => thn (h.run pins s σ H _ I hw) fun v s1 ⟨x, H1, I1, r, d, u, hd, mu, q⟩ => by
    obtain ⟨od, I2⟩ := I1.lock hd mu
    exact ⟨x, _, I2, r, q od⟩⟩
def tLkS (t : TS) : TS := fun E σ H => ∃ d u, H d = some u ∧ Mut (some u) ∧ ∀ od, t E σ (upd H d (.frz od u))
theorem pss_lk {X : Cx} {sts : List Stmt} {t : TS} (h : PSs X sts t) : PSs X sts (tLkS t) :=
  ⟨fun pins s σ H D I hw => by
    obtain ⟨d, u, hd, mu, q⟩ := hw
    obtain ⟨od, I1⟩ := I.lock hd mu
    exact h.run pins s σ _ D I1 (q od)⟩

/-! ### keys, tables -/
structure Kk {κ : Type} (ek : κ → D) (kk : κ → Key) : Prop where
  enc : ∀ x, ek x = kD (kk x)
  inj : ∀ x y, kk x = kk y → x = y
structure KkT {κ : Type} (ek : κ → D) (kk : κ → List Key) : Prop where
  enc : ∀ x, ek x = tD (kk x)
  inj : ∀ x y, kk x = kk y → x = y
theorem Kk.int : Kk D.int Sum.inl := ⟨fun _ => rfl, fun _ _ h => Sum.inl.inj h⟩
theorem Kk.str : Kk D.str Sum.inr := ⟨fun _ => rfl, fun _ _ h => Sum.inr.inj h⟩
theorem KkT.tup {κ : Type} {e : κ → D} {k : κ → Key} (h : Kk e k) : KkT (eT e) (List.map k) := by
  refine ⟨fun x => ?_, fun x => ?_⟩
  · show D.tup (x.map e) = D.tup ((x.map k).map kD)
    rw [List.map_map]
    congr 1
    exact List.map_congr_left fun z _ => h.enc z
  · induction x with
    | nil => intro y q; cases y with | nil => rfl | cons => cases q
    | cons a x ih =>
      intro y q
      cases y with
      | nil => cases q
      | cons b y =>
        injection q with q1 q2
        rw [h.inj _ _ q1, ih y q2]
theorem KkT.pair {κ χ : Type} {e : κ → D} {f : χ → D} {k : κ → Key} {m : χ → Key} (h : Kk e k) (g : Kk f m) : KkT (eP e f) (fun p => [k p.1, m p.2]) := by
  refine ⟨fun x => ?_, fun x y q => ?_⟩
  · show D.tup [e x.1, f x.2] = D.tup [kD (k x.1), kD (m x.2)]
    rw [h.enc, g.enc]
  · injection q with q1 q2
    injection q2 with q2 _
    exact Prod.ext (h.inj _ _ q1) (g.inj _ _ q2)
theorem kD_inj : ∀ {a b : Key}, kD a = kD b → a = b
  | .inl i, .inl j, h => by injection h with h; rw [h]
  | .inr i, .inr j, h => by injection h with h; rw [h]
  | .inl i, .inr j, h => by cases h
  | .inr i, .inl j, h => by cases h
theorem tD_inj {a b : List Key} (h : tD a = tD b) : a = b := by
  unfold tD at h
  injection h with h
  induction a generalizing b with
  | nil => cases b with | nil => rfl | cons => cases h
  | cons x a ih =>
    cases b with
    | nil => cases h
    | cons y b =>
      injection h with h1 h2
      rw [kD_inj h1, ih h2]
section
variable {κ β : Type} [DecidableEq κ]
def getL (l : List (κ × β)) (k : κ) : Option β := (l.find? fun p => decide (p.1 = k)).map (·.2)
def putL (l : List (κ × β)) (k : κ) (v : β) : List (κ × β) := if (l.any fun p => decide (p.1 = k)) = true then l.map (fun p => if p.1 = k then (p.1, v) else p) else l ++ [(k, v)]
theorem getL_nil {k : κ} : getL ([] : List (κ × β)) k = none := rfl
theorem getL_cons {p : κ × β} {l : List (κ × β)} {k : κ} : getL (p :: l) k = if p.1 = k then some p.2 else getL l k := by
  unfold getL
  rw [List.find?_cons]
  by_cases h : p.1 = k
  · rw [if_pos h, decide_eq_true h]; rfl
  · rw [if_neg h, decide_eq_false h]
theorem putL_length (l : List (κ × β)) (k : κ) (v : β) : (putL l k v).length ≤ l.length + 1 := by
  unfold putL
  split
  · rw [List.length_map]; exact Nat.le_succ _
  · rw [List.length_append]; exact Nat.le_refl _
end
section
variable {κ β χ : Type} [DecidableEq κ] [DecidableEq χ] {kk : κ → χ} {K : Kx} {F : Hp} {e : β → D}
theorem tab_get (hj : ∀ x y, kk x = kk y → x = y) (k : κ) : ∀ {kvs : List (χ × V)} {l : List (κ × β)}, kvs.map (·.1) = l.map (fun p => kk p.1) → Reps K F (kvs.map (·.2)) (l.map fun p => e p.2) →
    (∀ y, getL l k = some y → ∃ u, valV kvs (kk k) = some u ∧ Rep K F u (e y)) ∧ (getL l k = none → valV kvs (kk k) = none)
  | [], [], _, _ => ⟨fun y h => (by cases h), fun _ => rfl⟩
  | [], _ :: _, h, _ => by cases h
  | _ :: _, [], h, _ => by cases h
  | (q, v) :: kvs, (p, b) :: l, h, .cons r rs => by
    have h1 : q = kk p := (List.cons.inj h).1
    obtain ⟨i1, i2⟩ := tab_get hj k (List.cons.inj h).2 rs
    subst h1
    rw [getL_cons]
    by_cases z : p = k
    · subst z
      rw [if_pos rfl, valV_pos rfl]
      exact ⟨fun y e => (by cases e; exact ⟨v, rfl, r⟩), fun e => (by cases e)⟩
    · rw [if_neg z, valV_neg (fun e => z (hj _ _ e))]
      exact ⟨i1, i2⟩
theorem tab_any (hj : ∀ x y, kk x = kk y → x = y) (k : κ) : ∀ {kvs : List (χ × V)} {l : List (κ × β)}, kvs.map (·.1) = l.map (fun p => kk p.1) → (kvs.any fun kv => decide (kv.1 = kk k)) = l.any fun p => decide (p.1 = k)
  | [], [], _ => rfl
  | [], _ :: _, h => by cases h
  | _ :: _, [], h => by cases h
  | (q, v) :: kvs, (p, b) :: l, h => by
    have h1 : q = kk p := (List.cons.inj h).1
    subst h1
    rw [List.any_cons, List.any_cons, tab_any hj k (List.cons.inj h).2]
    congr 1
    by_cases z : p = k
    · rw [decide_eq_true z, decide_eq_true (by rw [z])]
    · rw [decide_eq_false z, decide_eq_false (fun e => z (hj _ _ e))]
theorem tab_repl (hj : ∀ x y, kk x = kk y → x = y) (k : κ) {v : V} {b : β} (r : Rep K F v (e b)) : ∀ {kvs : List (χ × V)} {l : List (κ × β)}, kvs.map (·.1) = l.map (fun p => kk p.1) → Reps K F (kvs.map (·.2)) (l.map fun p => e p.2) →
    (kvs.map fun kv => if kv.1 = kk k then (kv.1, v) else kv).map (·.1) = (l.map fun p => if p.1 = k then (p.1, b) else p).map (fun p => kk p.1) ∧ Reps K F ((kvs.map fun kv => if kv.1 = kk k then (kv.1, v) else kv).map (·.2)) ((l.map fun p => if p.1 = k then (p.1, b) else p).map fun p => e p.2)
  | [], [], _, _ => ⟨rfl, .nil⟩
  | [], _ :: _, h, _ => by cases h
  | _ :: _, [], h, _ => by cases h
  | q :: kvs, p :: l, h, .cons r0 rs => by
    have h1 : q.1 = kk p.1 := (List.cons.inj h).1
    obtain ⟨i1, i2⟩ := tab_repl hj k r (List.cons.inj h).2 rs
    simp only [List.map_cons]
    by_cases z : p.1 = k
    · rw [if_pos z, if_pos (by rw [h1, z])]
      exact ⟨by rw [i1, h1], .cons r i2⟩
    · rw [if_neg z, if_neg (by rw [h1]; exact fun e => z (hj _ _ e))]
      exact ⟨by rw [i1, h1], .cons r0 i2⟩
theorem tab_put (hj : ∀ x y, kk x = kk y → x = y) (k : κ) {v : V} {b : β} (r : Rep K F v (e b)) {kvs : List (χ × V)} {l : List (κ × β)} (h : kvs.map (·.1) = l.map (fun p => kk p.1)) (rs : Reps K F (kvs.map (·.2)) (l.map fun p => e p.2)) :
    (putK kvs (kk k) v).map (·.1) = (putL l k b).map (fun p => kk p.1) ∧ Reps K F ((putK kvs (kk k) v).map (·.2)) ((putL l k b).map fun p => e p.2) := by
  unfold putK putL
  rw [tab_any hj k h]
  split
  · exact tab_repl hj k r h rs
  · rw [List.map_append, List.map_append, List.map_append, List.map_append, h]
    exact ⟨rfl, rs.append (.cons r .nil)⟩
end
abbrev eDk {κ β : Type} (ek : κ → D) (e : β → D) (l : List (κ × β)) : D := .dct (l.map fun p => (ek p.1, e p.2))
abbrev eDt {κ β : Type} (ek : κ → D) (e : β → D) (l : List (κ × β)) : D := .dtt (l.map fun p => (ek p.1, e p.2))
theorem reps_kv {kvs : List (Key × V)} {l : List (D × D)} {K : Kx} {F : Hp} (hl : kvs.map (fun p => kD p.1) = l.map (·.1)) (hi : ∀ (i : Nat) (p : Key × V) (q : D × D), kvs[i]? = some p → l[i]? = some q → Rep K F p.2 q.2) : Reps K F (kvs.map (·.2)) (l.map (·.2)) := by
  have := congrArg List.length hl
  rw [List.length_map, List.length_map] at this
  refine Reps.of (by rw [List.length_map, List.length_map, this]) fun i v d h1 h2 => ?_
  rw [List.getElem?_map] at h1 h2
  cases q1 : kvs[i]? with
  | none => rw [q1] at h1; cases h1
  | some a =>
    cases q2 : l[i]? with
    | none => rw [q2] at h2; cases h2
    | some b => rw [q1] at h1; rw [q2] at h2; cases h1; cases h2; exact hi i a b q1 q2
theorem reps_kvT {kvs : List (List Key × V)} {l : List (D × D)} {K : Kx} {F : Hp} (hl : kvs.map (fun p => tD p.1) = l.map (·.1)) (hi : ∀ (i : Nat) (p : List Key × V) (q : D × D), kvs[i]? = some p → l[i]? = some q → Rep K F p.2 q.2) : Reps K F (kvs.map (·.2)) (l.map (·.2)) := by
  have := congrArg List.length hl
  rw [List.length_map, List.length_map] at this
  refine Reps.of (by rw [List.length_map, List.length_map, this]) fun i v d h1 h2 => ?_
  rw [List.getElem?_map] at h1 h2
  cases q1 : kvs[i]? with
  | none => rw [q1] at h1; cases h1
  | some a =>
    cases q2 : l[i]? with
    | none => rw [q2] at h2; cases h2
    | some b => rw [q1] at h1; rw [q2] at h2; cases h1; cases h2; exact hi i a b q1 q2
section
variable {κ β : Type} {ek : κ → D} {e : β → D} {kk : κ → Key} {kt : κ → List Key} {K : Kx} {F H : Hp} {aS : Option Addr} {v : V} {l : List (κ × β)}
theorem keys_k (O : Kk ek kk) : ∀ {kvs : List (Key × V)} {l : List (κ × β)}, kvs.map (fun p => kD p.1) = (l.map fun p => (ek p.1, e p.2)).map (·.1) → kvs.map (·.1) = l.map (fun p => kk p.1)
  | [], [], _ => rfl
  | [], _ :: _, h => by cases h
  | _ :: _, [], h => by cases h
  | q :: kvs, p :: l, h => by
    have h1 : kD q.1 = ek p.1 := (List.cons.inj h).1
    rw [O.enc] at h1
    rw [List.map_cons, List.map_cons, keys_k O (List.cons.inj h).2, kD_inj h1]
theorem keys_t (O : KkT ek kt) : ∀ {kvs : List (List Key × V)} {l : List (κ × β)}, kvs.map (fun p => tD p.1) = (l.map fun p => (ek p.1, e p.2)).map (·.1) → kvs.map (·.1) = l.map (fun p => kt p.1)
  | [], [], _ => rfl
  | [], _ :: _, h => by cases h
  | _ :: _, [], h => by cases h
  | q :: kvs, p :: l, h => by
    have h1 : tD q.1 = ek p.1 := (List.cons.inj h).1
    rw [O.enc] at h1
    rw [List.map_cons, List.map_cons, keys_t O (List.cons.inj h).2, tD_inj h1]
theorem keys_k' (O : Kk ek kk) {kvs : List (Key × V)} {l : List (κ × β)} (h : kvs.map (·.1) = l.map (fun p => kk p.1)) : kvs.map (fun p => kD p.1) = (l.map fun p => (ek p.1, e p.2)).map (·.1) := by
  have := congrArg (List.map kD) h
  rw [List.map_map, List.map_map] at this
  rw [List.map_map]
  refine this.trans (List.map_congr_left fun p _ => (O.enc p.1).symm)
theorem keys_t' (O : KkT ek kt) {kvs : List (List Key × V)} {l : List (κ × β)} (h : kvs.map (·.1) = l.map (fun p => kt p.1)) : kvs.map (fun p => tD p.1) = (l.map fun p => (ek p.1, e p.2)).map (·.1) := by
  have := congrArg (List.map tD) h
  rw [List.map_map, List.map_map] at this
  rw [List.map_map]
  refine this.trans (List.map_congr_left fun p _ => (O.enc p.1).symm)
theorem vals_m {l : List (κ × β)} : (l.map fun p => (ek p.1, e p.2)).map (·.2) = l.map fun p => e p.2 := by rw [List.map_map]; rfl
/-- a dict that may be read -/
theorem BRep.dictK (O : Kk ek kk) (ex : Ex F H) (r : BRep aS K F H v (eDk ek e l)) : ∃ a kvs, v = .ref a ∧ Rd H a (.dK kvs) ∧ l.length ≤ LIM ∧ kvs.map (·.1) = l.map (fun p => kk p.1) ∧ Reps K F (kvs.map (·.2)) (l.map fun p => e p.2) := by
  cases r with
  | of r =>
    cases r with
    | dk h hz hl hi =>
      rw [List.length_map] at hz
      have := reps_kv hl hi
      rw [vals_m] at this
      exact ⟨_, _, rfl, .inr ⟨_, ex _ _ h⟩, hz, keys_k O hl, this⟩
  | ok ns hF hH hz hk r =>
    rw [List.length_map] at hz
    rw [vals_m] at r
    exact ⟨_, _, rfl, .inl hH, hz, keys_k O hk, r⟩
theorem BRep.dictT (O : KkT ek kt) (ex : Ex F H) (r : BRep aS K F H v (eDt ek e l)) : ∃ a kvs, v = .ref a ∧ Rd H a (.dT kvs) ∧ l.length ≤ LIM ∧ kvs.map (·.1) = l.map (fun p => kt p.1) ∧ Reps K F (kvs.map (·.2)) (l.map fun p => e p.2) := by
  cases r with
  | of r =>
    cases r with
    | dt h hz hl hi =>
      rw [List.length_map] at hz
      have := reps_kvT hl hi
      rw [vals_m] at this
      exact ⟨_, _, rfl, .inr ⟨_, ex _ _ h⟩, hz, keys_t O hl, this⟩
  | ot ns hF hH hz hk r =>
    rw [List.length_map] at hz
    rw [vals_m] at r
    exact ⟨_, _, rfl, .inl hH, hz, keys_t O hk, r⟩
theorem Rep.key_k {k : Key} {v : V} (r : Rep K F v (kD k)) : v = kV k := by
  cases k with
  | inl i => exact r.int_inv
  | inr i => exact r.str_inv
theorem BRep.key_k {k : Key} {v : V} (r : BRep aS K F H v (kD k)) : v = kV k := by
  cases k with
  | inl i => exact r.int_inv
  | inr i => exact r.str_inv
theorem keys_vals : ∀ {vs : List V} {ks : List Key}, Reps K F vs (ks.map kD) → vs = ks.map kV
  | [], [], _ => rfl
  | _ :: _, _ :: _, .cons r rs => by rw [r.key_k, keys_vals rs]; rfl
theorem BRep.key_t (ex : Ex F H) {k : List Key} {v : V} (r : BRep aS K F H v (tD k)) : ∃ b, v = .ref b ∧ H b = some (.tup (k.map kV)) := by
  obtain ⟨b, vs, rfl, h, _, rs⟩ := r.of_tup.of_tup
  refine ⟨b, rfl, ?_⟩
  rw [← keys_vals rs]
  exact ex _ _ h
end
/-- a kind of dicts: how keys, values, the dict are told -/
structure Dct {κ β : Type} [DecidableEq κ] (ek : κ → D) (e : β → D) (eD : List (κ × β) → D) : Prop where
  rd : ∀ {aS : Option Addr} {K : Kx} {F H : Hp} {v : V} {l : List (κ × β)}, Ex F H → BRep aS K F H v (eD l) → ∃ a, v = .ref a ∧ IsD H a ∧ l.length ≤ LIM ∧
    ((∃ kvs, Rd H a (.dK kvs) ∧ kvs.length = l.length) ∨ ∃ kvs, Rd H a (.dT kvs) ∧ kvs.length = l.length) ∧
    ∀ w k, BRep aS K F H w (ek k) → (∀ y, getL l k = some y → ∃ u, DGet H a w (some u) ∧ Rep K F u (e y)) ∧ (getL l k = none → DGet H a w none)
theorem Dct.k {κ β : Type} [DecidableEq κ] {ek : κ → D} {e : β → D} {kk : κ → Key} (O : Kk ek kk) : Dct ek e (eDk ek e) := ⟨fun {aS K F H v l} ex r => by
  obtain ⟨a, kvs, rfl, rd, hz, hk, rs⟩ := r.dictK O ex
  have hl : kvs.length = l.length := by have := congrArg List.length hk; rwa [List.length_map, List.length_map] at this
  refine ⟨a, rfl, .inl ⟨kvs, rd⟩, hz, .inl ⟨kvs, rd, hl⟩, fun w k rw' => ?_⟩
  rw [O.enc] at rw'
  cases rw'.key_k
  obtain ⟨t1, t2⟩ := tab_get O.inj k hk rs
  refine ⟨fun y h => ?_, fun h => .inl ⟨kvs, kk k, rd, rfl, (t2 h).symm⟩⟩
  obtain ⟨u, hu, ru⟩ := t1 y h
  exact ⟨u, .inl ⟨kvs, kk k, rd, rfl, hu.symm⟩, ru⟩⟩
theorem Dct.t {κ β : Type} [DecidableEq κ] {ek : κ → D} {e : β → D} {kt : κ → List Key} (O : KkT ek kt) : Dct ek e (eDt ek e) := ⟨fun {aS K F H v l} ex r => by
  obtain ⟨a, kvs, rfl, rd, hz, hk, rs⟩ := r.dictT O ex
  have hl : kvs.length = l.length := by have := congrArg List.length hk; rwa [List.length_map, List.length_map] at this
  refine ⟨a, rfl, .inr ⟨kvs, rd⟩, hz, .inr ⟨kvs, rd, hl⟩, fun w k rw' => ?_⟩
  rw [O.enc] at rw'
  obtain ⟨b, rfl, hb⟩ := rw'.key_t ex
  obtain ⟨t1, t2⟩ := tab_get O.inj k hk rs
  refine ⟨fun y h => ?_, fun h => .inr ⟨kvs, kt k, b, rd, rfl, hb, (t2 h).symm⟩⟩
  obtain ⟨u, hu, ru⟩ := t1 y h
  exact ⟨u, .inr ⟨kvs, kt k, b, rd, rfl, hb, hu.symm⟩, ru⟩⟩
/-- len(d) -/
def rLenZ : List V → Hp → VK → Prop := fun xs H Q => ∃ p n, xs = [.ref p] ∧ ((∃ kvs, Rd H p (.dK kvs) ∧ kvs.length = n) ∨ ∃ kvs, Rd H p (.dT kvs) ∧ kvs.length = n) ∧ Q (.int (n : Nat)) H
theorem call_lenZ {X : Cx} : CallR X (.builtin "len") rLenZ := by
  intro pins s σ H xs us Q I r h
  obtain ⟨p, n, rfl, hp, q⟩ := h
  obtain ⟨u, rfl, rx⟩ := vals1 r
  obtain rfl : u = .ref p := rx
  rcases hp with ⟨kvs, hp, rfl⟩ | ⟨kvs, hp, rfl⟩
  · exact d_len I hp fun t s' I' => ⟨.int kvs.length, H, I', ⟨t, rfl⟩, q⟩
  · obtain ⟨z, hd, ys, rel, dd⟩ := dt_rd I.hok hp
    have hl : kvs.length = ys.length := Paired.length rel
    refine call_len_dictH hd dd (by rw [← hl]; rw [sizeLine_eq] at z; omega) ?_
    rw [← hl]
    exact ⟨.int ((kvs.length : Nat) : Int), H, I.tok _, ⟨_, rfl⟩, q⟩
section
variable {c : Ct} {e0 a b f : Expr} {es : List Expr} {sts rest : List Stmt} {ρ ρ1 : List Sl} {d d1 d2 : D} {α β γ κ : Type} [DecidableEq κ] {ek : κ → D} {e : β → D} {eD : List (κ × β) → D} {m : M α} {pos p2 p3 p4 p5 p6 : Pos} {x y : Str} {aS : Option Addr} {K : Kx} {F F' H H' : Hp} {s : List D} {σ : L2.St} {B : Bs} {out : γ → Oc}
theorem units1 {X : Cx} (I : c.Is X) : X.A.units + 1 < cLine := by
  have := units65 I
  omega
/-- d[k] -/
theorem dm_dget {ml : M (List (κ × β))} {mk : M κ} (O : Dct ek e eD) (ha : DN c a ρ eD ml) (hb : DN c b ρ ek mk) (hs : NoSl b := by intro _ _; rfl) : DM c (.Subscript a b pos) ρ e (ml >>= fun l => mk >>= fun k => ofO (getL l k)) := by
  obtain ⟨t, h1, h2⟩ := ha
  obtain ⟨u, h3, h4⟩ := hb
  refine ⟨tDGet t u, fun X I => pe_dget (units1 I) (h1 X I) (h3 X I) hs, fun aS B s F H σ R Q q => h2 aS B s F H σ R _ (q.bind.imp fun l s1 q1 v F1 H1 f1 hs1 r1 => h4 aS B s1 F1 H1 σ (R.step f1 hs1) _ (q1.bind.imp fun k s2 q2 w F2 H2 f2 hs2 r2 => ?_))⟩
  obtain ⟨y, hy, q3⟩ := q2.ofO
  obtain ⟨p, rfl, _, _, _, g⟩ := O.rd f2.fh (r1.step f2)
  obtain ⟨z, hz, rz⟩ := (g w k r2).1 y hy
  exact ⟨p, z, rfl, hz, q3 z F2 H2 (f1.trans f2) hs2 rz⟩
theorem dt_pc {op : CmpOp} {mb : M Bool} (h : ∃ t, (∀ X, c.Is X → PC X op a b t) ∧ EvM c.K t ρ D.bl mb) (hm : behindInMarks op b = false) : DTM c (.Compare a [op] [b] pos) ρ mb := by
  obtain ⟨t, h1, h2⟩ := h
  exact ⟨_, fun X I => pt_cmp (h1 X I) hm, fun aS B s F H σ R Q q => h2 aS B s F H σ R _ (q.imp fun k s' q v F' H' f hs r => ⟨k, r.bl_inv, q F' H' f hs⟩)⟩
/-- len(d) -/
theorem dm_lenD {ml : M (List (κ × β))} (O : Dct ek e eD) (hg : GI c "len") (hm : c.mg "len" = none) (ha : DN c a ρ eD ml) (hs : NoStar a := by intro _ _; rfl) : DM c (.Call (.Name "len" p2) [a] [] pos) ρ D.int (ml >>= fun l => pure (l.length : Int)) :=
  dm_call1B (r := rLenZ) (fun X I => call_lenZ) (fun l s P h => okp (g := (l.length : Int)) h fun aS F H vs e r Q q => by
    obtain ⟨v, rfl, r1⟩ := arg1 r
    obtain ⟨p, rfl, _, _, hn, _⟩ := O.rd e r1
    exact ⟨p, l.length, rfl, hn, q _ F H (Fp.refl e) (.int _)⟩) hg hm PySem.boot_len ha hs
end
end Dl

/-! Dl, part V: new dicts, dicts of one's own. -/
namespace Dl
open PySem PySem.Spec PyProof.Rows L2
open Evl (Ex)
/-- a new thing that nobody else knows -/
def EvW {α : Type} (K : Kx) (te : TE) (ρ : List Sl) (o : α → Ow) (m : M α) : Prop := ∀ (aS : Option Addr) (B : Bs) (s : List D) (F H : Hp) (σ : L2.St), REnv aS K B s F H σ ρ → ∀ Q : VK,
  Okk (m s) (fun a s' => ∀ p fp F' H', Fr aS F H F' H' → SrcAt aS K s' F' H' → (∀ q ∈ fp, H q = none ∧ F' q = none ∧ ∃ u, H' q = some u ∧ NT u) → OwAt K B F' H' fp p (o a) → Q (.ref p) H') → te σ H Q
def DW {α : Type} (c : Ct) (e : Expr) (ρ : List Sl) (o : α → Ow) (m : M α) : Prop := ∃ t, (∀ X, c.Is X → PE X e t) ∧ EvW c.K t ρ o m
def isDc : Ow → Bool
  | .dk _ => true
  | .dt _ => true
  | .dl _ => true
  | _ => false
section
variable {c : Ct} {e a b f elt tg kx vx : Expr} {es ifs : List Expr} {sts rest : List Stmt} {ρ ρ1 : List Sl} {d d1 d2 : D} {α β γ κ χ : Type} [DecidableEq κ] {ek : κ → D} {enc : α → D} {eb : β → D} {m : M α} {pos p2 p3 p4 p5 p6 : Pos} {x y : Str} {aS : Option Addr} {K : Kx} {F F' H H' : Hp} {s : List D} {σ : L2.St} {B : Bs} {out : γ → Oc} {o : α → Ow} {scope : Scope}
/-- a new dict gets known -/
theorem OwAt.known {fp : List Addr} {p : Addr} {o : Ow} (ho : isDc o = true) (f : Fr aS F H F' H') (hs : SrcAt aS K s F' H') (ns : ∀ q, H q = none → aS ≠ some q) (hp : ∀ q ∈ fp, H q = none ∧ F' q = none ∧ ∃ u, H' q = some u ∧ NT u) (r : OwAt K B F' H' fp p o) :
    ∃ u, H' p = some u ∧ Mut (some u) ∧ ∀ od, ∃ F'', Fr aS F H F'' (upd H' p (.frz od u)) ∧ SrcAt aS K s F'' (upd H' p (.frz od u)) ∧ Rep K F'' (.ref p) (owD o) := by
  have hpp := hp p r.self
  have hu : ∃ u, H' p = some u ∧ Mut (some u) ∧ ∀ fp, OwAt K B F' H' fp p o → lkAt K F' H' fp p o p := by
    cases o with
    | dk l => obtain ⟨rfl, kvs, h1, _⟩ := r; exact ⟨_, h1, trivial, fun _ _ => rfl⟩
    | dt l => obtain ⟨rfl, kvs, h1, _⟩ := r; exact ⟨_, h1, trivial, fun _ _ => rfl⟩
    | dl l => obtain ⟨as, rfl, kas, h1, _⟩ := r; exact ⟨_, h1, trivial, fun _ _ => rfl⟩
    | ob t n fs => cases ho
    | od t n fs f l => cases ho
  obtain ⟨u, hu, mu, hl⟩ := hu
  refine ⟨u, hu, mu, fun od => ?_⟩
  have e1 : Ex F' (knowAll fp F' (upd H' p (.frz od u))) := fun a w e => by
    have : a ∉ fp := fun z => by
      have := (hp a z).2.1
      rw [e] at this
      cases this
    rw [knowAll_out this]
    exact e
  refine ⟨knowAll fp F' (upd H' p (.frz od u)), ⟨f.ff.trans e1, ex_knownAll (ex_keep f.fh hpp.2.1), fun a w g1 g2 g3 g9 => ?_, fun a h => f.dm a (dm_upd a h)⟩, ⟨tabs_upd hs.tb (fun u e => by
    obtain ⟨_, _, u', h1, h2⟩ := hp p r.self
    rw [h1] at e
    cases e
    exact h2), nf_know hs.tb hs.nf (fun a ha => (hp a ha).2.2), fun a ha => ?_⟩, r.rep e1 ⟨od, u, hu, by rw [knowAll_in r.self, upd_same]⟩ (fun q hq hne => by rw [knowAll_in hq, upd_ne hne]) (hl _ r)⟩
  · obtain ⟨g4, g5⟩ := f.kq a w g1 g2 g3 g9
    have na : a ∉ fp := fun z => by
      have := (hp a z).1
      rw [g3] at this
      cases this
    rw [upd_ne (fun z => na (by rw [z]; exact r.self)), knowAll_out na]
    exact ⟨g4, g5⟩
  · obtain ⟨h1, h2⟩ := hs.at' a ha
    have na : a ∉ fp := fun z => ns a (hp a z).1 ha
    exact ⟨by rw [knowAll_out na]; exact h1, h2.loc (upd_ne (fun z => na (by rw [z]; exact r.self))) e1⟩
theorem DW.toM (ho : ∀ a, isDc (o a) = true) (he : ∀ a, owD (o a) = enc a) (h : DW c e ρ o m) : DM c e ρ enc m := by
  obtain ⟨t, h1, h2⟩ := h
  refine ⟨tLk t, fun X I => pe_lk (h1 X I), fun aS B s F H σ R Q q => h2 aS B s F H σ R _ (q.imp fun a s1 q1 p fp F1 H1 f hs hp r => ?_)⟩
  obtain ⟨u, hu, mu, k⟩ := r.known (ho a) f hs (fun q hq => R.notSrc hq) hp
  refine ⟨p, u, hu, mu, fun od => ?_⟩
  obtain ⟨F2, f2, hs2, r2⟩ := k od
  rw [he] at r2
  exact q1 _ F2 _ f2 hs2 r2
/-- {} -/
theorem dw_newK : DW c (.Dict [] [] pos) ρ (fun _ : Unit => .dk []) (pure ()) :=
  ⟨_, fun X I => pe_dnewK, fun aS B s F H σ R Q q p hp => by
    have f := Fp.own (o := .dK []) R.ex hp
    exact q p [p] F _ f.fr (R.src.stepP f) (fun z hz => by cases List.mem_singleton.mp hz; exact ⟨hp, Ex.none_of R.ex hp, _, upd_same, rfl⟩) ⟨rfl, [], upd_same, Nat.zero_le _, rfl, .nil⟩⟩
theorem dw_newT : DW c (.Dict [] [] pos) ρ (fun _ : Unit => .dt []) (pure ()) :=
  ⟨_, fun X I => pe_dnewT, fun aS B s F H σ R Q q p hp => by
    have f := Fp.own (o := .dT []) R.ex hp
    exact q p [p] F _ f.fr (R.src.stepP f) (fun z hz => by cases List.mem_singleton.mp hz; exact ⟨hp, Ex.none_of R.ex hp, _, upd_same, rfl⟩) ⟨rfl, [], upd_same, Nat.zero_le _, rfl, .nil⟩⟩
theorem dp_dnew : DM c (.Dict [] [] pos) ρ eId (pure (D.dct [])) := by
  have := DW.toM (c := c) (ρ := ρ) (enc := fun _ : Unit => D.dct []) (fun _ => rfl) (fun _ => rfl) (dw_newK (pos := pos))
  have h2 := dm_up this
  exact h2
/-- the dict told as the own thing -/
abbrev oK {κ β : Type} (ek : κ → D) (e : β → D) (l : List (κ × β)) : Ow := .dk (l.map fun p => (ek p.1, e p.2))
abbrev oL {κ β : Type} (ek : κ → D) (e : β → D) (l : List (κ × List β)) : Ow := .dl (l.map fun p => (ek p.1, p.2.map e))
/-- {k: v for .. in ..}: the table that comes -/
def dcM {α κ β : Type} [DecidableEq κ] (p : α → M Bool) (fk : α → M κ) (fv : α → M β) : List α → List (κ × β) → M (List (κ × β))
  | [], l => pure l
  | x :: xs, l => p x >>= fun b => if b then fk x >>= fun k => fv x >>= fun v => dcM p fk fv xs (putL l k v) else dcM p fk fv xs l
theorem putL_le {κ β : Type} [DecidableEq κ] {l : List (κ × β)} {k : κ} {v : β} {n : Nat} (h : l.length ≤ n) : (putL l k v).length ≤ n + 1 := Nat.le_trans (putL_length l k v) (Nat.add_le_add_right h 1)
theorem dw_dc_parts {kk : κ → Key} {bind : α → List Sl → List Sl} {js : List Nat} {fz : Bool} {mi : M (List α)} {mp : α → M Bool} {mk : α → M κ} {mv : α → M β} (O : Kk ek kk) (own : List (Str × Nat)) (ok : blkC c.N c.sc scope own = true) (hit : DI c tg e fz ρ enc mi) (hg : DG (c.blk scope) tg js enc bind) (hj : ∀ j ∈ js, j ∈ own.map (·.2))
    (ht : ∀ x, DQM (c.blk scope) ifs (bind x (wipeS ρ (own.map (·.2)))) (mp x)) (hk : ∀ x, DM (c.blk scope) kx (bind x (wipeS ρ (own.map (·.2)))) ek (mk x)) (hf : ∀ x, DM (c.blk scope) vx (bind x (wipeS ρ (own.map (·.2)))) eb (mv x)) :
    ∃ wi g tt tk tv, (∀ X, c.Is X → PI X tg e wi) ∧ (∀ X, (c.blk scope).Is X → PG X tg g) ∧ (∀ X, (c.blk scope).Is X → PTs X ifs tt) ∧ (∀ X, (c.blk scope).Is X → PE X kx tk) ∧ (∀ X, (c.blk scope).Is X → PE X vx tv) ∧ EvW c.K (tDc wi g tt tk tv (own.map (·.2))) ρ (oK ek eb) (mi >>= fun xs => dcM mp mk mv xs []) := by
  obtain ⟨wi, h1, h2⟩ := hit
  obtain ⟨g, h3, h4⟩ := hg
  obtain ⟨tt, h5, h6⟩ := DTMs.all ht
  obtain ⟨tk, h7, h8⟩ := DM.all hk
  obtain ⟨tv, h9, h10⟩ := DM.all hf
  refine ⟨wi, g, tt, tk, tv, h1, h3, h5, h7, h9, fun aS B s F H σ R Q q => h2 aS B s F H σ R _ (q.bind.imp fun xs s1 q1 J F1 H1 G fr hs1 it hG _ Dl hD => ?_)⟩
  · have R1 := R.step fr hs1
    have nH : H Dl = none := Fr.none_of fr (R1.notSrc hD) hD
    have ns := R1.notSrc hD
    let Q2 : List (κ × β) → List D → Prop := fun l s' => ∀ p fp F' H', Fr aS F H F' H' → SrcAt aS c.K s' F' H' → (∀ q ∈ fp, H q = none ∧ F' q = none ∧ ∃ u, H' q = some u ∧ NT u) → OwAt c.K B F' H' fp p (oK ek eb l) → Q (.ref p) H'
    have q2 : Okk (dcM mp mk mv xs [] s1) Q2 := q1
    have start : REnv aS c.K B s1 F1 (upd H1 Dl (.dK [])) σ ρ := R1.stepP (Fp.own R1.ex hD)
    refine ⟨fun i n H' => n = xs.length - i ∧ i ≤ xs.length ∧ ∃ (ys : List (κ × β)) (kvs : List (Key × V)) (s' : List D) (F' : Hp), Fr aS F1 H1 F' H' ∧ SrcAt aS c.K s' F' H' ∧ F' Dl = none ∧ H' Dl = some (.dK kvs) ∧ kvs.map (·.1) = ys.map (fun p => kk p.1) ∧ Reps c.K F' (kvs.map (·.2)) (ys.map fun p => eb p.2) ∧ ys.length ≤ i ∧ Okk (dcM mp mk mv (xs.drop i) ys s') Q2,
      ⟨xs.length, rfl, Nat.zero_le _, [], [], s1, F1, (Fp.own R1.ex hD).fr, start.src, Ex.none_of R1.ex hD, upd_same, rfl, .nil, Nat.le_refl _, q2⟩, ?_⟩
    rintro i n H' ⟨rfl, hle, ys, kvs, s', F', f', hs', hF', hH', hks, rs, hy, ok2⟩
    have g0 := hG F' H' f'
    have few : xs.length ≤ LIM := by
      have := it.few
      rw [List.length_map] at this
      exact this
    have R2 : REnv aS c.K B s' F' H' σ ρ := R1.step f' hs'
    by_cases hlt : i < xs.length
    · rw [List.drop_eq_getElem_cons hlt] at ok2
      refine .inr ⟨it.go F' H' R2.ex g0 i (by rw [List.length_map]; exact hlt), fun H2 => ∃ (ys : List (κ × β)) (kvs : List (Key × V)) (s' : List D) (F' : Hp), Fr aS F1 H1 F' H2 ∧ SrcAt aS c.K s' F' H2 ∧ F' Dl = none ∧ H2 Dl = some (.dK kvs) ∧ kvs.map (·.1) = ys.map (fun p => kk p.1) ∧ Reps c.K F' (kvs.map (·.2)) (ys.map fun p => eb p.2) ∧ ys.length ≤ i + 1 ∧ Okk (dcM mp mk mv (xs.drop (i + 1)) ys s') Q2, fun H2 hN => ?_, fun y H2 hyl => ?_⟩
      · exact ⟨xs.length - (i + 1), by omega, rfl, hlt, hN⟩
      · have hd : (xs.map enc)[i]? = some (enc xs[i]) := by rw [List.getElem?_map, List.getElem?_eq_getElem hlt]; rfl
        obtain ⟨F2, fp, ry⟩ := it.yld F' H' R2.ex g0 i y H2 _ hd hyl
        have R3 := (R2.stepP fp).wipe (own.map (·.2))
        refine h4 aS B s' F2 H2 _ _ y xs[i] R3 ry _ fun σ3 R4 hw => ⟨?_, ?_⟩
        · rw [hw _ hj, wipe_wipe]
        · have ok2' : Okk ((mp xs[i] >>= fun b => if b then mk xs[i] >>= fun k => mv xs[i] >>= fun v => dcM mp mk mv (xs.drop (i + 1)) (putL ys k v) else dcM mp mk mv (xs.drop (i + 1)) ys) s') Q2 := ok2
          refine h6 xs[i] aS B s' F2 H2 σ3 R4 _ (ok2'.bind.imp fun bb s2 ok3 F3 H3 f3 hs3 => ?_)
          have keep3 := f3.kp Dl _ (fp.kp Dl _ hF' hH') ns (fp.hh _ _ hH')
          cases bb with
          | true =>
            refine h8 xs[i] aS B s2 F3 H3 σ3 (R4.step f3 hs3) _ (Okk.imp (Okk.bind ok3) fun k2 s3 ok4 w F4 H4 f4 hs4 r4 => ?_)
            refine h10 xs[i] aS B s3 F4 H4 σ3 (R4.step (f3.trans f4) hs4) _ (Okk.imp (Okk.bind ok4) fun y2 s4 ok5 v F5 H5 f5 hs5 r5 => ?_)
            have keep4 := f4.kp Dl _ keep3.2 ns keep3.1
            have keep5 := f5.kp Dl _ keep4.2 ns keep4.1
            have hvl : kvs.length = ys.length := by have := congrArg List.length hks; rwa [List.length_map, List.length_map] at this
            have fall : Fr aS F1 H1 F5 H5 := (((f'.trans fp.fr).trans f3).trans f4).trans f5
            rw [O.enc] at r4
            obtain ⟨t1, t2⟩ := tab_put O.inj k2 r5 hks (rs.mono (fp.ff.trans (f3.ff.trans (f4.ff.trans f5.ff))))
            refine ⟨kvs, kk k2, r4.key_k, keep5.1, by rw [hvl]; exact lim_lt (by omega), putL ys k2 y2, _, s4, F5, ⟨fall.ff, ex_keep fall.fh keep5.2, fun b o h9 h10 h11 => ?_, fun b q => fall.dm b (dm_upd b q)⟩, hs5.keep ns (fun u e => by rw [keep5.1] at e; cases e; rfl), keep5.2, upd_same, t1, t2, putL_le hy, ok5⟩
            rw [upd_ne (ne_of_none h11 hD)]
            exact fall.kq b o h9 h10 h11
          | false => exact ⟨ys, kvs, s2, F3, (f'.trans fp.fr).trans f3, hs3, keep3.2, keep3.1, hks, rs.mono (fp.ff.trans f3.ff), Nat.le_succ_of_le hy, ok3⟩
    · have e0 : i = xs.length := by omega
      subst e0
      rw [List.drop_length] at ok2
      have ok3 : Q2 ys s' := ok2
      refine .inl ⟨it.stop F' H' R2.ex g0 _ (by rw [List.length_map]; exact Nat.le_refl _), ok3 Dl [Dl] F' H' (fr.trans f') hs' (fun z hz => ?_) ⟨rfl, kvs, hH', by rw [List.length_map]; exact Nat.le_trans hy few, keys_k' O hks, by rw [vals_m]; exact rs⟩⟩
      cases List.mem_singleton.mp hz
      exact ⟨nH, hF', _, hH', rfl⟩
theorem dw_dc [Cool c] {kk : κ → Key} {bind : α → List Sl → List Sl} {js : List Nat} {fz : Bool} {mi : M (List α)} {mp : α → M Bool} {mk : α → M κ} {mv : α → M β} (O : Kk ek kk) (own : List (Str × Nat)) (ok : blkC c.N c.sc scope own = true) (hit : DI c tg e fz ρ enc mi) (hg : DG (c.blk scope) tg js enc bind) (hj : ∀ j ∈ js, j ∈ own.map (·.2))
    (ht : ∀ x, DQM (c.blk scope) ifs (bind x (wipeS ρ (own.map (·.2)))) (mp x)) (hk : ∀ x, DM (c.blk scope) kx (bind x (wipeS ρ (own.map (·.2)))) ek (mk x)) (hf : ∀ x, DM (c.blk scope) vx (bind x (wipeS ρ (own.map (·.2)))) eb (mv x)) (hs : ∀ env x, foldedSetIterable e env x = pure x := by intro _ _; rfl) :
    DW c (.DictComp kx vx [⟨tg, e, ifs, 0⟩] scope pos) ρ (oK ek eb) (mi >>= fun xs => dcM mp mk mv xs []) := by
  obtain ⟨wi, g, tt, tk, tv, h1, h3, h5, h7, h9, ev⟩ := dw_dc_parts O own ok hit hg hj ht hk hf
  refine ⟨tDc wi g tt tk tv (own.map (·.2)), fun X I => ?_, ev⟩
  have ok' : BlkOk X.N X.env.scope scope own := by
    rw [I.N, I.sc]
    exact blkOk_by ok
  exact pe_dc (I.calm Cool.h) I.nd (h1 X I) ok' (fun s H C cl fp => h3 _ (blk_is I s H C cl fp)) (fun s H C cl fp => h5 _ (blk_is I s H C cl fp)) (fun s H C cl fp => h7 _ (blk_is I s H C cl fp)) (fun s H C cl fp => h9 _ (blk_is I s H C cl fp)) (hs _)
end
end Dl

/-! Dl, part W: dicts of one's own change; dicts of lists of one's own. -/
namespace Dl
open PySem PySem.Spec PyProof.Rows L2
open Evl (Ex)
section
variable {κ β : Type} [DecidableEq κ]
def appL : List (κ × List β) → κ → β → List (κ × List β)
  | [], _, _ => []
  | p :: r, k, y => if p.1 = k then (p.1, p.2 ++ [y]) :: r else p :: appL r k y
theorem appL_length (l : List (κ × List β)) (k : κ) (y : β) : (appL l k y).length = l.length := by
  induction l with
  | nil => rfl
  | cons p r ih =>
    unfold appL
    split
    · rfl
    · rw [List.length_cons, List.length_cons, ih]
end
/-- the table of a thing of one's own -/
def tabOf : Ow → Option (List (D × List D))
  | .dl l => some l
  | .od _ _ _ _ l => some l
  | _ => none
def setTab : Ow → List (D × List D) → Ow
  | .dl _, l => .dl l
  | .od t n fs f _, l => .od t n fs f l
  | o, _ => o
/-- where its dict stands -/
def tabAt (H : Hp) (x : Option V) (q : Addr) : Ow → Prop
  | .dl _ => x = some (.ref q)
  | .od _ n fs f _ => ∃ a C dx gs, x = some (.ref a) ∧ H a = some (.ins C dx (gs ++ [(f, V.ref q)])) ∧ gs.map (·.1) = fs.map (·.1)
  | _ => False
section
variable {c : Ct} {e a b f elt tg kx vx pe : Expr} {es ifs : List Expr} {sts rest : List Stmt} {ρ ρ1 : List Sl} {d d1 d2 : D} {α β γ κ χ : Type} [DecidableEq κ] {ek : κ → D} {kk : κ → Key} {kt : κ → List Key} {enc : α → D} {eb : β → D} {m : M α} {pos p2 p3 p4 p5 p6 : Pos} {x y : Str} {aS : Option Addr} {K : Kx} {F F' H H' : Hp} {s s' : List D} {σ : L2.St} {B : Bs} {out : γ → Oc} {scope : Scope}
theorem ds_freezeO (i : Nat) (o : Ow) (d : D) (hno : ∀ t n fs, o ≠ .ob t n fs) (hd : owD o = d) {n : M γ} (hρ : ρ[i]? = some (.oo o)) (h : DS c sts (ρ.set i (.im d)) out n) : DS c sts ρ out n := by
  subst hd
  obtain ⟨t, h1, h2⟩ := h
  refine ⟨tLkS t, fun X I => pss_lk (h1 X I), fun aS B s F H σ R E q => ?_⟩
  obtain ⟨p, u, hu, mu, k⟩ := R.freezeO hρ hno
  refine ⟨p, u, hu, mu, fun od => ?_⟩
  obtain ⟨F', _, R1⟩ := k od
  exact h2 aS B s F' _ σ R1 E q
/-! ### tables of lists -/
theorem DlAt.lists {a : Addr} {as : List Addr} {l : List (D × List D)} (h : DlAt K F H a as l) : ∀ p ∈ as, ∃ vs, H p = some (.lst vs) := by
  obtain ⟨kas, _, _, rfl, _, h5⟩ := h
  have : ∀ {k : List (Key × Addr)} {m : List (D × List D)}, Paired (fun (p : Key × Addr) (q : D × List D) => kD p.1 = q.1 ∧ LsAt K F H p.2 q.2) k m → ∀ p ∈ k.map (·.2), ∃ vs, H p = some (.lst vs) := by
    intro k m hp
    induction hp with
    | nil => intro p hp; exact absurd hp List.not_mem_nil
    | cons r _ ih =>
      intro p hp
      rcases List.mem_cons.mp hp with z | z
      · obtain ⟨vs, h, _⟩ := r.2
        have z' : p = _ := z
        rw [z']
        exact ⟨vs, h⟩
      · exact ih p z
  exact this h5
theorem REnv.tab {i : Nat} {o : Ow} {l : List (D × List D)} (R : REnv aS K B s F H σ ρ) (hi : ρ[i]? = some (.oo o)) (ht : tabOf o = some l) : ∃ x q as, σ[i]? = some x ∧ tabAt H x q o ∧ Free aS B F q ∧ DlAt K F H q as l ∧ (∀ p ∈ as, Free aS B F p) ∧
    ∀ {F' H' : Hp} {s' : List D} {as' : List Addr} {l' : List (D × List D)}, Ex F F' → Ex F' H' → SrcAt aS K s' F' H' → DlAt K F' H' q as' l' → (∀ p ∈ as', (p ∈ as ∨ H p = none) ∧ F' p = none) → F' q = none →
      (∀ p u, p ≠ q → p ∉ as → F p = none → aS ≠ some p → H p = some u → nb u = true → H' p = some u ∧ (F' p = none ∨ ∃ vs, u = .tup vs)) → (∀ a, H' a = none → B.h a = none) → REnv aS K B s' F' H' σ (ρ.set i (.oo (setTab o l'))) := by
  cases o with
  | dk => cases ht
  | dt => cases ht
  | ob => cases ht
  | dl l0 =>
    cases ht
    obtain ⟨fp, k1, k2, k3⟩ := R.view i
    obtain ⟨a, fp0, hσ, _, _⟩ := R.ownO hi
    obtain ⟨a', e1, as, rfl, r⟩ := k2 _ _ hσ hi
    cases e1
    refine ⟨_, a, as, hσ, rfl, (k1 a List.mem_cons_self).1, r, fun p hp => (k1 p (List.mem_cons_of_mem _ hp)).1, fun {F' H' s' as' l'} e2 e3 e4 e5 e6 e7 e8 e9 => ?_⟩
    have R2 := k3 (x' := some (.ref a)) (y' := .oo (.dl l')) e2 e3 e4 ⟨a :: as', ⟨a, rfl, as', rfl, e5⟩, fun p hp => ?_, fun p u hp => e8 p u (fun z => hp (by rw [z]; exact List.mem_cons_self)) (fun z => hp (List.mem_cons_of_mem _ z))⟩ e9
    · rw [set_self hσ] at R2
      exact R2
    · rcases List.mem_cons.mp hp with rfl | hp
      · obtain ⟨kas, h1, _⟩ := e5
        exact ⟨.inl List.mem_cons_self, e7, _, h1, rfl⟩
      · obtain ⟨h1, h2⟩ := e6 p hp
        obtain ⟨vs, h3⟩ := e5.lists p hp
        exact ⟨h1.imp (List.mem_cons_of_mem _) id, h2, _, h3, rfl⟩
  | od t n fs f l0 =>
    cases ht
    obtain ⟨fp, k1, k2, k3⟩ := R.view i
    obtain ⟨a, fp0, hσ, _, _⟩ := R.ownO hi
    obtain ⟨a', e1, C, dx, gs, q, as, rfl, g1, g2, g3, g4, g5, r⟩ := k2 _ _ hσ hi
    cases e1
    have m1 : q ∈ a :: dx :: q :: as := List.mem_cons_of_mem _ (List.mem_cons_of_mem _ List.mem_cons_self)
    have m2 : ∀ p ∈ as, p ∈ a :: dx :: q :: as := fun p hp => List.mem_cons_of_mem _ (List.mem_cons_of_mem _ (List.mem_cons_of_mem _ hp))
    have hq : ∃ kas : List (Key × Addr), H q = some (.dK (kas.map fun p => (p.1, V.ref p.2))) := ⟨_, r.choose_spec.1⟩
    obtain ⟨kas, hq⟩ := hq
    refine ⟨_, q, as, hσ, ⟨a, C, dx, gs, rfl, g2, g4⟩, (k1 q m1).1, r, fun p hp => (k1 p (m2 p hp)).1, fun {F' H' s' as' l'} e2 e3 e4 e5 e6 e7 e8 e9 => ?_⟩
    have na : ∀ {p : Addr} {u : HO}, H p = some u → (∀ vs, u ≠ .lst vs) → p ∉ as := fun {p u} hp hu z => by
      obtain ⟨vs, h⟩ := r.lists p z
      rw [hp] at h
      cases h
      exact hu vs rfl
    obtain ⟨f1, f2⟩ := e8 a _ (fun z => by rw [z, hq] at g2; cases g2) (na g2 fun _ z => nomatch z) (k1 a List.mem_cons_self).1.nF (k1 a List.mem_cons_self).1.ns g2 rfl
    obtain ⟨f3, f4⟩ := e8 dx _ (fun z => by rw [z, hq] at g3; cases g3) (na g3 fun _ z => nomatch z) (k1 dx (List.mem_cons_of_mem _ List.mem_cons_self)).1.nF (k1 dx (List.mem_cons_of_mem _ List.mem_cons_self)).1.ns g3 rfl
    have R2 := k3 (x' := some (.ref a)) (y' := .oo (.od t n fs f l')) e2 e3 e4 ⟨a :: dx :: q :: as', ⟨a, rfl, C, dx, gs, q, as', rfl, g1, f1, f3, g4, g5.mono e2, e5⟩, fun p hp => ?_, fun p u hp => e8 p u (fun z => hp (by rw [z]; exact m1)) (fun z => hp (m2 p z))⟩ e9
    · rw [set_self hσ] at R2
      exact R2
    · rcases List.mem_cons.mp hp with rfl | hp
      · refine ⟨.inl List.mem_cons_self, ?_, _, f1, rfl⟩
        rcases f2 with f2 | ⟨vs, f2⟩
        · exact f2
        · cases f2
      rcases List.mem_cons.mp hp with rfl | hp
      · refine ⟨.inl (List.mem_cons_of_mem _ List.mem_cons_self), ?_, _, f3, rfl⟩
        rcases f4 with f4 | ⟨vs, f4⟩
        · exact f4
        · cases f4
      rcases List.mem_cons.mp hp with rfl | hp
      · obtain ⟨kas, h1, _⟩ := e5
        exact ⟨.inl m1, e7, _, h1, rfl⟩
      · obtain ⟨h1, h2⟩ := e6 p hp
        obtain ⟨vs, h3⟩ := e5.lists p hp
        exact ⟨h1.imp (m2 p) id, h2, _, h3, rfl⟩
theorem tabAt.same {F1 H1 : Hp} {i : Nat} {o : Ow} {xv : Option V} {q q' : Addr} (R : REnv aS K B s F H σ ρ) (hi : ρ[i]? = some (.oo o)) (f : Fr aS F H F1 H1) (hσ : σ[i]? = some xv) (h : tabAt H xv q o) (h' : tabAt H1 xv q' o) : q' = q := by
  cases o with
  | dk => exact h.elim
  | dt => exact h.elim
  | ob => exact h.elim
  | dl l =>
    have h : xv = some (.ref q) := h
    have h' : xv = some (.ref q') := h'
    rw [h] at h'
    injection h' with h'
    injection h' with h'
    exact h'.symm
  | od t n fs f0 l =>
    obtain ⟨a, C, dx, gs, rfl, g1, g2⟩ := h
    obtain ⟨a', C', dx', gs', e', g1', g2'⟩ := h'
    cases e'
    obtain ⟨_, fp, e9, w9, k9⟩ := R.ownO hi
    cases hσ.symm.trans e9
    have := (f.kp a _ (k9 a w9.self).1.nF (k9 a w9.self).1.ns g1).1
    rw [g1'] at this
    injection this with this
    injection this with _ _ this
    have := (List.append_inj' this rfl).2
    injection this with this _
    injection this with _ this
    injection this with this
theorem kas_inj : ∀ {k k' : List (Key × Addr)}, k.map (fun p => (p.1, V.ref p.2)) = k'.map (fun p => (p.1, V.ref p.2)) → k = k'
  | [], [], _ => rfl
  | [], _ :: _, h => by cases h
  | _ :: _, [], h => by cases h
  | (a, b) :: k, (a', b') :: k', h => by
    injection h with h1 h2
    injection h1 with h1 h3
    injection h3 with h3
    have h1 : a = a' := h1
    have h3 : b = b' := h3
    rw [h1, h3, kas_inj h2]
theorem REnv.setOff (i : Nat) (R : REnv aS K B s F H σ ρ) : REnv aS K B s F H σ (ρ.set i .no) := by
  obtain ⟨φ, k1, k2, k3⟩ := R.sl
  refine ⟨R.fr, R.kn, R.src, by rw [List.length_set, R.len], φ, k1, k2, fun j x y h1 h2 => ?_⟩
  rcases set_at h2 with ⟨_, rfl, _⟩ | ⟨_, h2⟩
  · trivial
  · exact k3 j x y h1 h2
abbrev encL (ek : κ → D) (e : β → D) (l : List (κ × List β)) : List (D × List D) := l.map fun p => (ek p.1, p.2.map e)
/-- the list at a key, and what comes of another item there -/
theorem tabLook (O : Kk ek kk) {P : Key × Addr → D × List D → Prop} (k : κ) (ys : List β) {kas : List (Key × Addr)} {l : List (κ × List β)} (h : Paired (fun (p : Key × Addr) (q : D × List D) => kD p.1 = q.1 ∧ LsAt K F H p.2 q.2) kas (encL ek eb l)) (hn : (kas.map (·.2)).Nodup) (hk : getL l k = some ys) :
    ∃ p vs, valV (kas.map fun p => (p.1, V.ref p.2)) (kk k) = some (.ref p) ∧ p ∈ kas.map (·.2) ∧ H p = some (.lst vs) ∧ ys.length ≤ LIM ∧ Reps K F vs (ys.map eb) ∧
      ∀ v y F', Ex F F' → Rep K F' v (eb y) → ys.length + 1 ≤ LIM → Paired (fun (a : Key × Addr) (q : D × List D) => kD a.1 = q.1 ∧ LsAt K F' (upd H p (.lst (vs ++ [v]))) a.2 q.2) kas (encL ek eb (appL l k y)) := by
  induction l generalizing kas with
  | nil => cases hk
  | cons p0 l ih =>
    cases h with
    | @cons ka _ kas _ r rs =>
      have h1 : kD ka.1 = ek p0.1 := r.1
      rw [O.enc] at h1
      have h1 := kD_inj h1
      rw [getL_cons] at hk
      have hn2 : ka.2 ∉ kas.map (·.2) ∧ (kas.map (·.2)).Nodup := List.nodup_cons.mp hn
      by_cases z : p0.1 = k
      · rw [if_pos z] at hk
        cases hk
        obtain ⟨vs, g1, g2, g3⟩ := r.2
        rw [List.length_map] at g2
        refine ⟨ka.2, vs, by rw [List.map_cons, valV_pos (by rw [h1, z])], List.mem_cons_self, g1, g2, g3, fun v y F' ex rv hl => ?_⟩
        unfold appL
        rw [if_pos z]
        refine .cons ⟨r.1, vs ++ [v], upd_same, by rw [List.length_map, List.length_append]; exact hl, (by show Reps K F' (vs ++ [v]) ((p0.2 ++ [y]).map eb); rw [List.map_append]; exact (g3.mono ex).append (.cons rv .nil))⟩ (Paired.map_mem rs fun a ha q hq => ⟨hq.1, hq.2.loc ?_ ex⟩)
        exact upd_ne fun w => hn2.1 (by rw [← w]; exact List.mem_map_of_mem ha)
      · rw [if_neg z] at hk
        obtain ⟨p, vs, g0, g1, g2, g3, g4, g5⟩ := ih rs hn2.2 hk
        refine ⟨p, vs, by rw [List.map_cons, valV_neg (fun w => z (O.inj _ _ (h1.symm.trans w)))]; exact g0, List.mem_cons_of_mem _ g1, g2, g3, g4, fun v y F' ex rv hl => ?_⟩
        unfold appL
        rw [if_neg z]
        refine .cons ⟨r.1, r.2.loc (upd_ne fun w => hn2.1 ?_) ex⟩ (g5 v y F' ex rv hl)
        rw [w]
        exact g1
/-- how a table of one's own is reached: its dict -/
def DTab (c : Ct) (pe : Expr) (i : Nat) (ρ : List Sl) (o : Ow) : Prop := ∃ t, (∀ X, c.Is X → PE X pe t) ∧ ∀ (aS : Option Addr) (B : Bs) (s : List D) (F H : Hp) (σ : L2.St), REnv aS c.K B s F H σ ρ → ∀ (x : Option V) (q : Addr), σ[i]? = some x → tabAt H x q o → ∀ Q : VK, Q (.ref q) H → t σ H Q
theorem lookup_last {f : Str} {v : V} : ∀ {gs : List (Str × V)} {fs : List (Str × D)}, gs.map (·.1) = fs.map (·.1) → fs.lookup f = none → (gs ++ [(f, v)]).lookup f = some v
  | [], [], _, _ => by
    show List.lookup f [(f, v)] = some v
    rw [List.lookup_cons_self]
  | [], _ :: _, h, _ => by cases h
  | _ :: _, [], h, _ => by cases h
  | (g, w) :: gs, (g', d') :: fs, h, hl => by
    have h1 : g = g' := (List.cons.inj h).1
    have h2 := (List.cons.inj h).2
    subst h1
    rw [List.cons_append, List.lookup_cons]
    rw [List.lookup_cons] at hl
    split at hl
    · cases hl
    · exact lookup_last h2 hl
theorem dtab_fld (i : Nat) {t : Bool} {n f : Str} {fs : List (Str × D)} {l : List (D × List D)} {C : Addr} (hN : c.N[i]? = some x) (hv : Vis c.sc x) (hρ : ρ[i]? = some (.oo (.od t n fs f l))) (hc : c.K.cm n = some C) (hn : NoAttr c.K.K C f) (hl : fs.lookup f = none) (hd : (x == ("__debug__" : Str)) = false := by decide) (hcd : (x == ("__classdict__" : Str)) = false := by decide) :
    DTab c (.Attribute (.Name x p2) f p3) i ρ (.od t n fs f l) :=
  ⟨tFld c.K.K (tVar i) f, fun X I => by rw [← I.K]; exact pe_fld (pe_var (i := i) (by rw [I.N]; exact hN) (by rw [I.sc]; exact hv) hd hcd) rfl, fun aS B s F H σ R x q hσ hx Q hq => by
    obtain ⟨a, C', dx, gs, rfl, h1, h2⟩ := hx
    obtain ⟨a', fp, e1, ⟨C0, dx0, gs0, q0, as0, _, ⟨hc0, _⟩, g2, _⟩, _⟩ := R.ownO hρ
    cases hσ.symm.trans e1
    have eC : C0 = C' := by
      have := g2.symm.trans h1
      injection this with this
      injection this
    subst eC
    have hCC : C0 = C := by
      have : c.g.K.cm n = some C0 := hc0
      rw [show c.g.K.cm n = some C from hc] at this
      exact (Option.some.inj this).symm
    subst hCC
    exact ⟨_, hσ, a, C0, dx, _, .ref q, rfl, h1, (c.g.cls n C0 hc).cl, hn, lookup_last h2 hl, hq⟩⟩
/-- pe[k].append(v) -/
theorem ds_tabApp (i : Nat) (O : Kk ek kk) (o : List (κ × List β) → Ow) (ho : ∀ l, tabOf (o l) = some (encL ek eb l)) (hso : ∀ l l', setTab (o l) (encL ek eb l') = o l') (l : List (κ × List β)) {mv : M β} {mk : M κ} {n : List (κ × List β) → M γ} (h0 : ρ[i]? = some (.oo (o l))) (hp : DTab c pe i ρ (o l)) (hb : DM c b ρ ek mk) (he : DM c e (ρ.set i .no) eb mv) (hr : ∀ l', DS c rest (ρ.set i (.oo (o l'))) out (n l'))
    (hs : NoStar e := by intro _ _; rfl) (hl : (p3.endLine == p4.line) = true := by rfl) (hsl : NoSl b := by intro _ _; rfl) :
    DS c (.Expr (.Call (.Attribute (.Subscript pe b p5) "append" p3) [e] [] p4) pos :: rest) ρ out (mk >>= fun k => ofO (getL l k) >>= fun ys => mv >>= fun v => chk (ys.length + 1) >>= fun _ => n (appL l k v)) := by
  obtain ⟨t, h1, h2⟩ := he
  obtain ⟨u, h3, h4⟩ := hb
  obtain ⟨w, h5, h6⟩ := DS.all hr
  obtain ⟨z, h7, h8⟩ := hp
  refine ⟨tSeq (tDrop (tBM c.K.K "list" rAppend (tDGet z u) (tCons t tNil))) w, fun X I => ?_, fun aS B s F H σ R E q => ?_⟩
  · rw [← I.K]
    exact pss_cons (ps_expr (pe_bm PySem.F.plainAttrs_list PySem.F.slot_list_append PySem.F.type_list_append mt_append (pe_dget (units1 I) (h7 X I) (h3 X I) hsl) (pa_cons (h1 X I) pa_nil (hs _ _)) rfl (few1 hs _) hl (hs _ _) rfl)) (h5 X I)
  obtain ⟨x, qa, as, hσ, hx, fq, _⟩ := R.tab h0 (ho l)
  refine h8 aS B s F H σ R x qa hσ hx _ (h4 aS B s F H σ R _ (q.bind.imp fun k s1 q1 y F1 H1 f1 hs1 r1 => ?_))
  have R1 := R.step f1 hs1
  obtain ⟨ys, hy, q2⟩ := q1.bind.ofO
  obtain ⟨x', qa', as', hσ', hx', fq', dl, fas, _⟩ := R1.tab h0 (ho l)
  have eqa : qa' = qa := by
    cases hσ.symm.trans hσ'
    exact tabAt.same R h0 f1 hσ hx hx'
  subst eqa
  obtain ⟨kas, d1, d2, d3, d4, d5⟩ := dl
  rw [O.enc] at r1
  cases r1.key_k
  obtain ⟨p, vs, g0, g1, g2, g3, g4, _⟩ := tabLook (P := fun _ _ => True) O k ys d5 (by rw [← d3]; exact d4) hy
  refine ⟨qa', .ref p, rfl, .inl ⟨_, kk k, .inl d1, rfl, g0.symm⟩, ow_sq g2, h2 aS B s1 F1 H1 σ (R1.setOff i) _ (q2.bind.imp fun v s2 q3 y F2 H2 f2 hs2 r2 => ?_)⟩
  have R2 := R1.step f2 hs2
  obtain ⟨hc, q4⟩ := q3.chk
  have fp : Free aS B F1 p := fas p (by rw [d3]; exact g1)
  obtain ⟨e3, e4⟩ := f2.kp p _ fp.nF fp.ns g2
  obtain ⟨e5, e6⟩ := f2.kp qa' _ fq'.nF fq'.ns d1
  obtain ⟨x2, qa2, as2, hσ2, hx2, fq2, dl2, fas2, up⟩ := R2.tab h0 (ho l)
  have eqa2 : qa2 = qa' := by
    cases hσ'.symm.trans hσ2
    exact tabAt.same R1 h0 f2 hσ' hx' hx2
  subst eqa2
  obtain ⟨kas2, b1, b2, b3, b4, b5⟩ := dl2
  have ek' : kas2 = kas := by
    have := b1.symm.trans e5
    injection this with this
    injection this with this
    exact kas_inj this
  subst ek'
  obtain ⟨p2, vs2, c0, c1, c2, c3, c4, c5⟩ := tabLook (P := fun _ _ => True) O k ys b5 (by rw [← b3]; exact b4) hy
  cases g0.symm.trans c0
  cases e3.symm.trans c2
  refine ⟨p, vs, y, rfl, rfl, c2, by rw [c4.length, List.length_map]; exact lim_lt (by omega), h6 (appL l k v) aS B s2 F2 _ σ ?_ E q4⟩
  have nq : qa2 ≠ p := fun z => by rw [z, c2] at b1; cases b1
  have R3 := up (F' := F2) (H' := upd H2 p (.lst (vs ++ [y]))) (s' := s2) (as' := as2) (l' := encL ek eb (appL l k v)) (Ex.refl _) (ex_keep R2.ex e4) (hs2.keep fp.ns (fun u e => by rw [c2] at e; cases e; rfl)) ⟨kas2, by rw [upd_ne nq]; exact b1, by rw [List.length_map, appL_length]; rw [List.length_map] at b2; exact b2, b3, b4, c5 y v F2 (Ex.refl _) r2 hc⟩ (fun z hz => ⟨.inl hz, (fas2 z hz).nF⟩) fq2.nF (fun z u _ hz h9 h10 h11 _ => ⟨by rw [upd_ne (fun w => hz (by rw [w, b3]; exact c1))]; exact h11, .inl h9⟩) fun a h => R2.stands (dm_upd a h)
  rw [hso] at R3
  exact R3

end
end Dl

/-! Dl, part X: max, min of data; bit_length; more of dicts. -/
namespace Dl
open PySem PySem.Spec PyProof.Rows L2
open Evl (Ex)
open PySem.Calls PySem.W
structure MxOk (K : PySem.W.Frag) (H : Hp) (ps : List (V × D)) : Prop where
  dp : ∀ p ∈ ps, Dp K H p.1 (py p.2)
  al : AlikeAll (ps.map fun p => py p.2)
  dep : ∀ p ∈ ps, (py p.2).depth ≤ 60
  few : ps.length ≤ LIM
def rMxZ (mx : PyData → List PyData → PyData) (K : PySem.W.Frag) : List V → Hp → VK → Prop := fun xs H Q => ∃ a p0 ps, xs = [.ref a] ∧ (SqL K H a ((p0 :: ps).map (·.1)) ∨ SqT K H a ((p0 :: ps).map (·.1))) ∧ MxOk K H (p0 :: ps) ∧ ∀ q ∈ p0 :: ps, py q.2 = mx (py p0.2) (ps.map fun p => py p.2) → Q q.1 H
theorem maxD_mem (x : PyData) (xs : List PyData) : maxD x xs ∈ x :: xs := by
  unfold maxD
  induction xs generalizing x with
  | nil => exact List.mem_cons_self
  | cons y ys ih =>
    rw [List.foldl_cons]
    rcases List.mem_cons.mp (ih (if dataLt x y then y else x)) with h | h
    · rw [h]
      split
      · exact List.mem_cons_of_mem _ List.mem_cons_self
      · exact List.mem_cons_self
    · exact List.mem_cons_of_mem _ (List.mem_cons_of_mem _ h)
section
variable {X : Cx} {pins : List (Addr × Obj)} {σ : L2.St} {H : Hp} {s : Shared}
theorem reads_ps (I : Inv X pins σ H s) : ∀ {ps : List (V × D)} {us : List Value}, (∀ p ∈ ps, Dp X.K H p.1 (py p.2)) → Vals (ps.map (·.1)) us → ∃ as, ReadsAll s.heap us (ps.map fun p => py p.2) as
  | [], _, _, .nil => ⟨_, .nil⟩
  | p :: ps, _, h, .cons r t => by
    obtain ⟨as, r1⟩ := Dp.reads I _ _ _ (h p List.mem_cons_self) r
    obtain ⟨bs, r2⟩ := reads_ps I (fun q hq => h q (List.mem_cons_of_mem _ hq)) t
    exact ⟨_, .cons r1 r2⟩
theorem depth_all {n : Nat} : ∀ {ds : List PyData}, (∀ d ∈ ds, d.depth ≤ n) → PyData.depthAll ds ≤ n
  | [], _ => Nat.zero_le _
  | d :: ds, h => Nat.max_le.mpr ⟨h d List.mem_cons_self, depth_all fun q hq => h q (List.mem_cons_of_mem _ hq)⟩
theorem vals_pick : ∀ {vs : List V} {us : List Value}, Vals vs us → ∀ {i : Nat} {u : Value}, us[i]? = some u → ∃ v, vs[i]? = some v ∧ RelV v u
  | _, _, .nil, i, u, h => by simp at h
  | _, _, .cons r t, 0, u, h => by cases h; exact ⟨_, rfl, r⟩
  | _, _, .cons r t, i + 1, u, h => vals_pick t (i := i) (by simpa using h)
theorem mx_fin (I : Inv X pins σ H s) {mx : PyData → List PyData → PyData} (hm : ∀ x xs, mx x xs ∈ x :: xs) {p0 : V × D} {ps : List (V × D)} {its : List Value} (ok : MxOk X.K H (p0 :: ps)) (rv : Vals ((p0 :: ps).map (·.1)) its) {Q : VK} (q : ∀ q ∈ p0 :: ps, py q.2 = mx (py p0.2) (ps.map fun p => py p.2) → Q q.1 H)
    {i : Nat} {v : Value} {h' : Heap} {tk : Nat} {bs : List Addr} (hi : its.toArray[i]? = some v) (r : Reads h' v (mx (py p0.2) (ps.map fun p => py p.2)) bs) (k : ∀ b o, s.heap.get? b = some o → h'.get? b = some o) : EP X pins σ Q v { s with heap := h', toks := tk } := by
  rw [List.getElem?_toArray] at hi
  obtain ⟨x, hx, rx⟩ := vals_pick rv hi
  rw [List.getElem?_map] at hx
  cases hp : (p0 :: ps)[i]? with
  | none => rw [hp] at hx; cases hx
  | some p =>
    rw [hp] at hx
    cases hx
    have hmem := List.mem_of_getElem? hp
    obtain ⟨as, r1⟩ := Dp.reads I _ _ _ (ok.dp p hmem) rx
    have r2 := PyProof.Rows.Reads.keeps k r1
    have ea := ok.al.1 (py p.2) (List.mem_map.mpr ⟨p, hmem, rfl⟩) _ (by rw [List.map_cons]; exact hm _ _)
    exact ⟨p.1, H, I.kept k, rx, q p hmem (alike_unique _ _ _ _ _ ea r2 r)⟩
theorem cr_maxZ (hc : X.calm = true) (hu : X.A.units + 65 < cLine) : CallR X (.builtin "max") (rMxZ maxD X.K) := by
  intro pins s σ H xs us Q I r h
  obtain ⟨a, p0, ps, rfl, hs, ok, q⟩ := h
  rw [Vals.ref1 r]
  have hd : X.A.units + 1 + PyData.depthAll (py p0.2 :: ps.map fun p => py p.2) < cLine := by
    have := depth_all (n := 60) (ds := py p0.2 :: ps.map fun p => py p.2) fun d hd => by
      obtain ⟨p, hp, rfl⟩ := List.mem_map.mp (show d ∈ (p0 :: ps).map fun p => py p.2 from hd)
      exact ok.dep p hp
    omega
  rcases hs with hs | hs
  · obtain ⟨its, rv, hl, hz⟩ := I.list hs
    obtain ⟨as, ra⟩ := reads_ps I ok.dp rv
    have hal : AlikeAll (py p0.2 :: ps.map fun p => py p.2) := ok.al
    have ra : ReadsAll s.heap its.toArray.toList (py p0.2 :: ps.map fun p => py p.2) as := ra
    exact max_list_data (x := py p0.2) (xs := ps.map fun p => py p.2) (I.ok.hd hc) hl.isList ra hal hd fun i v h' tk bs hi r k => mx_fin I maxD_mem ok rv q hi r k
  · obtain ⟨its, rv, ht, hz⟩ := I.tuple hs
    obtain ⟨as, ra⟩ := reads_ps I ok.dp rv
    have hal : AlikeAll (py p0.2 :: ps.map fun p => py p.2) := ok.al
    have ra : ReadsAll s.heap its.toArray.toList (py p0.2 :: ps.map fun p => py p.2) as := ra
    exact max_tuple_data (x := py p0.2) (xs := ps.map fun p => py p.2) (I.ok.hd hc) ht ra hal hd fun i v h' tk bs hi r k => mx_fin I maxD_mem ok rv q hi r k
end
/-- the first of the greatest, of the least -/
def maxT {α : Type} (lt : α → α → Bool) (x : α) (xs : List α) : α := xs.foldl (fun a y => if lt a y then y else a) x
def mMax {α : Type} (lt : α → α → Bool) : List α → M α
  | [] => stuck
  | x :: xs => pure (maxT lt x xs)
section
variable {α : Type} [DecidableEq α] {enc : α → D} {lt : α → α → Bool} {ok : α → Bool} {k : Nat} {aS : Option Addr} {K : Kx} {F H : Hp}
theorem maxD_T (S : Srts enc lt ok) (x : α) (xs : List α) : maxD (py (enc x)) ((xs.map enc).map py) = py (enc (maxT lt x xs)) := by
  unfold maxD maxT
  induction xs generalizing x with
  | nil => rfl
  | cons y ys ih =>
    rw [List.map_cons, List.map_cons, List.foldl_cons, List.foldl_cons, ← ih]
    congr 1
    rw [S.lt]
    split <;> rfl
theorem py_inj (E : Eqs enc k) {x y : α} (h : py (enc x) = py (enc y)) : x = y := by
  have e1 := E.eq x x
  have e2 := E.eq x y
  rw [← h, e1] at e2
  have : decide (x = x) = true := decide_eq_true rfl
  rw [this] at e2
  exact of_decide_eq_true e2.symm
theorem oc_mx {mx : PyData → List PyData → PyData} {g : α → List α → α} (E : Eqs enc k) (S : Srts enc lt ok) (hg : ∀ x xs, mx (py (enc x)) ((xs.map enc).map py) = py (enc (g x xs))) (hnn : ∀ x, py (enc x) ≠ .none) {d : D} {x : α} {xs : List α} (hd : seqD d = some ((x :: xs).map enc)) : OpC K (rMxZ mx K.K) [d] (enc (g x xs)) := fun aS F H vs e r Q q => by
  obtain ⟨v, rfl, r1⟩ := arg1 r
  obtain ⟨a, ws, rfl, hs, hz, rs⟩ := r1.seq e hd
  cases rs with
  | @cons w _ ws _ r0 rs =>
    have hl : ws.length = (xs.map enc).length := rs.length
    have hp := pairs_rep (Paired.cons r0 rs : Reps K F (w :: ws) (enc x :: xs.map enc))
    have e1 : ((w, enc x) :: ws.zip (xs.map enc)).map (·.1) = w :: ws := by rw [List.map_cons, zip_fst hl]
    have e2 : ((w, enc x) :: ws.zip (xs.map enc)).map (·.2) = enc x :: xs.map enc := by rw [List.map_cons, zip_snd hl]
    have mem : ∀ p ∈ (w, enc x) :: ws.zip (xs.map enc), ∃ z, p.2 = enc z := fun p hp => by
      have : p.2 ∈ ((w, enc x) :: ws.zip (xs.map enc)).map (·.2) := List.mem_map.mpr ⟨p, hp, rfl⟩
      rw [e2, ← List.map_cons (f := enc)] at this
      obtain ⟨z, _, q⟩ := List.mem_map.mp this
      exact ⟨z, q.symm⟩
    have hpy : (ws.zip (xs.map enc)).map (fun p => py p.2) = (xs.map enc).map py := by
      rw [← zip_snd hl, List.map_map, zip_snd hl]; rfl
    refine ⟨a, (w, enc x), ws.zip (xs.map enc), rfl, by rw [e1]; exact hs, ⟨fun p hpm => ?_, ⟨fun d hd d' hd' => ?_, fun d hd => ?_⟩, fun p hpm => ?_, ?_⟩, fun p hpm hpe => ?_⟩
    · obtain ⟨z, hz2⟩ := mem p hpm
      exact (hp p hpm).dp e (by rw [hz2]; exact E.lay z)
    · obtain ⟨p, hp1, rfl⟩ := List.mem_map.mp hd
      obtain ⟨p', hp2, rfl⟩ := List.mem_map.mp hd'
      obtain ⟨z, hz1⟩ := mem p hp1
      obtain ⟨z', hz2⟩ := mem p' hp2
      rw [hz1, hz2]
      exact S.al z z'
    · obtain ⟨p, hp1, rfl⟩ := List.mem_map.mp hd
      obtain ⟨z, hz1⟩ := mem p hp1
      rw [hz1]
      exact hnn z
    · obtain ⟨z, hz2⟩ := mem p hpm
      rw [hz2]
      exact Nat.le_trans (E.dep z) E.few
    · have : ((w, enc x) :: ws.zip (xs.map enc)).length = (w :: ws).length := by rw [← e1, List.length_map]
      rw [this, List.length_cons, hl]
      rw [List.map_cons, List.length_cons] at hz
      exact hz
    · obtain ⟨z, hz2⟩ := mem p hpm
      rw [hpy] at hpe
      have hpe : py p.2 = mx (py (enc x)) ((xs.map enc).map py) := hpe
      rw [hg, hz2] at hpe
      have := py_inj E hpe
      have rp := hp p hpm
      rw [hz2, this] at rp
      exact q _ F H (Fp.refl e) rp
end
section
variable {c : Ct} {e a b f : Expr} {es : List Expr} {ρ : List Sl} {α β γ κ : Type} [DecidableEq α] {enc : α → D} {lt : α → α → Bool} {ok : α → Bool} {k : Nat} {pos p2 p3 p4 p5 p6 : Pos}
theorem b_max : bootBuiltins "max" = some (.builtin "max") := by decide +kernel
theorem Okk.mMax {xs : List α} {s : List D} {P : α → List D → Prop} (h : Okk (mMax lt xs s) P) : ∃ x ys, xs = x :: ys ∧ P (maxT lt x ys) s := by
  cases xs with
  | nil => exact h.elim
  | cons x ys => exact ⟨x, ys, rfl, h⟩
theorem dm_maxL [Cool c] (E : Eqs enc k) (S : Srts enc lt ok) (hnn : ∀ x, py (enc x) ≠ .none) {mx : M (List α)} (hg : GI c "max") (hm : c.mg "max" = none) (ha : DN c a ρ (eL enc) mx) (hs : NoStar a := by intro _ _; rfl) : DM c (.Call (.Name "max" p2) [a] [] pos) ρ enc (mx >>= mMax lt) :=
  dm_call1B (fun X I => by have := cr_maxZ (I.calm Cool.h) (units65 I); rw [I.K] at this; exact this) (fun l s P h => by
    obtain ⟨x, ys, rfl, q⟩ := h.mMax
    exact ⟨_, q, oc_mx E S (maxD_T S) hnn rfl⟩) hg hm b_max ha hs
theorem nn_pair {α β : Type} {e : α → D} {f : β → D} (x : α × β) : py (eP e f x) ≠ .none := by unfold py; exact fun z => nomatch z
end
end Dl

/-! Dl, part Y: more of dicts and lists of one's own. -/
namespace Dl
open PySem PySem.Spec PyProof.Rows L2
open Evl (Ex)
section
variable {κ β : Type} [DecidableEq κ]
theorem putL_mem {l : List (κ × β)} {k : κ} {v : β} {p : κ × β} (h : p ∈ putL l k v) : p = (k, v) ∨ p ∈ l := by
  unfold putL at h
  split at h
  · obtain ⟨q, hq, e⟩ := List.mem_map.mp h
    split at e
    · rename_i z
      rw [z] at e
      exact .inl e.symm
    · rw [← e]; exact .inr hq
  · rcases List.mem_append.mp h with h | h
    · exact .inr h
    · exact .inl (List.mem_singleton.mp h)
theorem putL_keys {l : List (κ × β)} {k : κ} {v : β} : (putL l k v).map (·.1) = if (l.any fun p => decide (p.1 = k)) = true then l.map (·.1) else l.map (·.1) ++ [k] := by
  unfold putL
  split
  · rw [List.map_map]
    refine List.map_congr_left fun p _ => ?_
    show (if p.1 = k then (p.1, v) else p).1 = p.1
    split <;> rfl
  · rw [List.map_append]; rfl
theorem any_key {l : List (κ × β)} {k : κ} : (l.any fun p => decide (p.1 = k)) = true ↔ k ∈ l.map (·.1) := by
  rw [List.any_eq_true, List.mem_map]
  exact ⟨fun ⟨p, hp, e⟩ => ⟨p, hp, of_decide_eq_true e⟩, fun ⟨p, hp, e⟩ => ⟨p, hp, decide_eq_true e⟩⟩
theorem putL_nodup {l : List (κ × β)} {k : κ} {v : β} (h : (l.map (·.1)).Nodup) : ((putL l k v).map (·.1)).Nodup := by
  rw [putL_keys]
  split
  · exact h
  · rename_i z
    rw [any_key] at z
    exact List.nodup_append.mpr ⟨h, List.nodup_cons.mpr ⟨List.not_mem_nil, List.nodup_nil⟩, fun a ha b hb => by
      rw [List.mem_singleton.mp hb]
      exact fun e => z (e ▸ ha)⟩
theorem putL_vals {l : List (κ × β)} {k : κ} {v : β} (h : (l.map (·.1)).Nodup) (h2 : (l.map (·.2)).Nodup) (hv : v ∉ l.map (·.2)) : ((putL l k v).map (·.2)).Nodup := by
  unfold putL
  split
  · rename_i z
    clear z
    induction l with
    | nil => exact List.nodup_nil
    | cons p l ih =>
      have h := List.nodup_cons.mp h
      have h2 := List.nodup_cons.mp h2
      have hv' : v ≠ p.2 ∧ v ∉ l.map (·.2) := ⟨fun e => hv (by rw [e]; exact List.mem_cons_self), fun e => hv (List.mem_cons_of_mem _ e)⟩
      have ih := ih h.2 h2.2 hv'.2
      by_cases z : p.1 = k
      · have none : l.map (fun p => if p.1 = k then (p.1, v) else p) = l := by
          rw [List.map_congr_left (g := id) (fun q hq => ?_), List.map_id]
          show (if q.1 = k then (q.1, v) else q) = q
          rw [if_neg (fun e => h.1 (by show p.1 ∈ l.map (·.1); rw [z, ← e]; exact List.mem_map_of_mem hq))]
        rw [List.map_cons, List.map_cons, if_pos z, none]
        exact List.nodup_cons.mpr ⟨hv'.2, h2.2⟩
      · rw [List.map_cons, List.map_cons, if_neg z]
        refine List.nodup_cons.mpr ⟨fun e => ?_, ih⟩
        obtain ⟨q, hq, e2⟩ := List.mem_map.mp e
        obtain ⟨r, hr, e3⟩ := List.mem_map.mp hq
        split at e3
        · rw [← e3] at e2; exact hv'.1 e2
        · rw [← e3] at e2; exact h2.1 (List.mem_map.mpr ⟨r, hr, e2⟩)
  · rw [List.map_append]
    exact List.nodup_append.mpr ⟨h2, List.nodup_cons.mpr ⟨List.not_mem_nil, List.nodup_nil⟩, fun a ha b hb => by
      rw [List.mem_singleton.mp hb]
      exact fun e => hv (by have e : a = v := e; rw [← e]; exact ha)⟩
end
theorem putK_ref (kas : List (Key × Addr)) (k : Key) (p : Addr) : putK (kas.map fun a => (a.1, V.ref a.2)) k (.ref p) = (putL kas k p).map fun a => (a.1, V.ref a.2) := by
  unfold putK putL
  rw [List.any_map]
  have : ((fun kv : Key × V => decide (kv.1 = k)) ∘ fun a : Key × Addr => (a.1, V.ref a.2)) = fun a : Key × Addr => decide (a.1 = k) := rfl
  rw [this]
  split
  · rw [List.map_map, List.map_map]
    refine List.map_congr_left fun a _ => ?_
    show (if a.1 = k then (a.1, V.ref p) else (a.1, V.ref a.2)) = ((if a.1 = k then (a.1, p) else a).1, V.ref (if a.1 = k then (a.1, p) else a).2)
    split <;> rfl
  · rw [List.map_append]; rfl
section
variable {c : Ct} {e a b f elt tg kx vx pe : Expr} {es ifs : List Expr} {sts rest : List Stmt} {ρ ρ1 : List Sl} {d d1 d2 : D} {α β γ κ χ : Type} [DecidableEq κ] {ek : κ → D} {kk : κ → Key} {kt : κ → List Key} {enc : α → D} {eb : β → D} {m : M α} {pos p2 p3 p4 p5 p6 p7 p8 : Pos} {x y : Str} {aS : Option Addr} {K : Kx} {F F' H H' : Hp} {s s' : List D} {σ : L2.St} {B : Bs} {out : γ → Oc} {scope : Scope}
/-- {k: [] for .. in ..} -/
theorem dw_dcl_parts {bind : α → List Sl → List Sl} {js : List Nat} {fz : Bool} {mi : M (List α)} {mp : α → M Bool} {mk : α → M κ} (O : Kk ek kk) (eb : β → D) (own : List (Str × Nat)) (ok : blkC c.N c.sc scope own = true) (hit : DI c tg e fz ρ enc mi) (hg : DG (c.blk scope) tg js enc bind) (hj : ∀ j ∈ js, j ∈ own.map (·.2))
    (ht : ∀ x, DQM (c.blk scope) ifs (bind x (wipeS ρ (own.map (·.2)))) (mp x)) (hk : ∀ x, DM (c.blk scope) kx (bind x (wipeS ρ (own.map (·.2)))) ek (mk x)) :
    ∃ wi g tt tk, (∀ X, c.Is X → PI X tg e wi) ∧ (∀ X, (c.blk scope).Is X → PG X tg g) ∧ (∀ X, (c.blk scope).Is X → PTs X ifs tt) ∧ (∀ X, (c.blk scope).Is X → PE X kx tk) ∧ EvW c.K (tDc wi g tt tk (tLst tNil) (own.map (·.2))) ρ (oL (β := β) ek eb) (mi >>= fun xs => dcM mp mk (fun _ => pure []) xs []) := by
  obtain ⟨wi, h1, h2⟩ := hit
  obtain ⟨g, h3, h4⟩ := hg
  obtain ⟨tt, h5, h6⟩ := DTMs.all ht
  obtain ⟨tk, h7, h8⟩ := DM.all hk
  refine ⟨wi, g, tt, tk, h1, h3, h5, h7, fun aS B s F H σ R Q q => h2 aS B s F H σ R _ (q.bind.imp fun xs s1 q1 J F1 H1 G fr hs1 it hG _ Dl hD => ?_)⟩
  · have R1 := R.step fr hs1
    have nH : H Dl = none := Fr.none_of fr (R1.notSrc hD) hD
    have ns := R1.notSrc hD
    let Q2 : List (κ × List β) → List D → Prop := fun l s' => ∀ p fp F' H', Fr aS F H F' H' → SrcAt aS c.K s' F' H' → (∀ q ∈ fp, H q = none ∧ F' q = none ∧ ∃ u, H' q = some u ∧ NT u) → OwAt c.K B F' H' fp p (oL ek eb l) → Q (.ref p) H'
    have q2 : Okk (dcM mp mk (fun _ => pure []) xs [] s1) Q2 := q1
    have start : REnv aS c.K B s1 F1 (upd H1 Dl (.dK [])) σ ρ := R1.stepP (Fp.own R1.ex hD)
    refine ⟨fun i n H' => n = xs.length - i ∧ i ≤ xs.length ∧ ∃ (ys : List (κ × List β)) (kas : List (Key × Addr)) (s' : List D) (F' : Hp), Fr aS F1 H1 F' H' ∧ SrcAt aS c.K s' F' H' ∧ F' Dl = none ∧ H' Dl = some (.dK (kas.map fun a => (a.1, V.ref a.2))) ∧ kas.map (·.1) = ys.map (fun p => kk p.1) ∧ ((kas.map (·.1)).Nodup ∧ (kas.map (·.2)).Nodup ∧ (∀ p ∈ kas.map (·.2), H1 p = none ∧ F' p = none ∧ H' p = some (.lst [])) ∧ ∀ p ∈ ys, p.2 = []) ∧ ys.length ≤ i ∧ Okk (dcM mp mk (fun _ => pure []) (xs.drop i) ys s') Q2,
      ⟨xs.length, rfl, Nat.zero_le _, [], [], s1, F1, (Fp.own R1.ex hD).fr, start.src, Ex.none_of R1.ex hD, upd_same, rfl, ⟨List.nodup_nil, List.nodup_nil, fun p hp => absurd hp List.not_mem_nil, fun p hp => absurd hp List.not_mem_nil⟩, Nat.le_refl _, q2⟩, ?_⟩
    rintro i n H' ⟨rfl, hle, ys, kas, s', F', f', hs', hF', hH', hks, ⟨nd1, nd2, hin, hem⟩, hy, ok2⟩
    have g0 := hG F' H' f'
    have few : xs.length ≤ LIM := by
      have := it.few
      rw [List.length_map] at this
      exact this
    have R2 : REnv aS c.K B s' F' H' σ ρ := R1.step f' hs'
    by_cases hlt : i < xs.length
    · rw [List.drop_eq_getElem_cons hlt] at ok2
      refine .inr ⟨it.go F' H' R2.ex g0 i (by rw [List.length_map]; exact hlt), fun H2 => ∃ (ys : List (κ × List β)) (kas : List (Key × Addr)) (s' : List D) (F' : Hp), Fr aS F1 H1 F' H2 ∧ SrcAt aS c.K s' F' H2 ∧ F' Dl = none ∧ H2 Dl = some (.dK (kas.map fun a => (a.1, V.ref a.2))) ∧ kas.map (·.1) = ys.map (fun p => kk p.1) ∧ ((kas.map (·.1)).Nodup ∧ (kas.map (·.2)).Nodup ∧ (∀ p ∈ kas.map (·.2), H1 p = none ∧ F' p = none ∧ H2 p = some (.lst [])) ∧ ∀ p ∈ ys, p.2 = []) ∧ ys.length ≤ i + 1 ∧ Okk (dcM mp mk (fun _ => pure []) (xs.drop (i + 1)) ys s') Q2, fun H2 hN => ?_, fun y H2 hyl => ?_⟩
      · exact ⟨xs.length - (i + 1), by omega, rfl, hlt, hN⟩
      · have hd : (xs.map enc)[i]? = some (enc xs[i]) := by rw [List.getElem?_map, List.getElem?_eq_getElem hlt]; rfl
        obtain ⟨F2, fp, ry⟩ := it.yld F' H' R2.ex g0 i y H2 _ hd hyl
        have R3 := (R2.stepP fp).wipe (own.map (·.2))
        refine h4 aS B s' F2 H2 _ _ y xs[i] R3 ry _ fun σ3 R4 hw => ⟨?_, ?_⟩
        · rw [hw _ hj, wipe_wipe]
        · have ok2' : Okk ((mp xs[i] >>= fun b => if b then mk xs[i] >>= fun k => (pure [] : M (List β)) >>= fun v => dcM mp mk (fun _ => pure []) (xs.drop (i + 1)) (putL ys k v) else dcM mp mk (fun _ => pure []) (xs.drop (i + 1)) ys) s') Q2 := ok2
          refine h6 xs[i] aS B s' F2 H2 σ3 R4 _ (ok2'.bind.imp fun bb s2 ok3 F3 H3 f3 hs3 => ?_)
          have stay : ∀ {F5 H5 : Hp}, Fr aS F' H' F5 H5 → ∀ p ∈ kas.map (·.2), H1 p = none ∧ F5 p = none ∧ H5 p = some (.lst []) := fun {F5 H5} f5 p hp => by
            obtain ⟨z1, z2, z3⟩ := hin p hp
            obtain ⟨z4, z5⟩ := f5.kp p _ z2 (R1.notSrc z1) z3
            exact ⟨z1, z5, z4⟩
          have keep3 := f3.kp Dl _ (fp.kp Dl _ hF' hH') ns (fp.hh _ _ hH')
          cases bb with
          | true =>
            refine h8 xs[i] aS B s2 F3 H3 σ3 (R4.step f3 hs3) _ (Okk.imp (Okk.bind ok3) fun k2 s3 ok4 w F4 H4 f4 hs4 r4 => ?_)
            refine ⟨Nat.zero_le _, fun p hp => ?_⟩
            have keep4 := f4.kp Dl _ keep3.2 ns keep3.1
            have hpD : p ≠ Dl := fun z => by rw [z, keep4.1] at hp; cases hp
            have fall : Fr aS F1 H1 F4 H4 := ((f'.trans fp.fr).trans f3).trans f4
            have fnew : Fr aS F' H' F4 H4 := (fp.fr.trans f3).trans f4
            have hvl : kas.length = ys.length := by have := congrArg List.length hks; rwa [List.length_map, List.length_map] at this
            rw [O.enc] at r4
            have np1 : H1 p = none := Fr.none_of fall (fun z => (hs4.at' p z).2.off hp rfl) hp
            have npk : p ∉ kas.map (·.2) := fun z => by
              obtain ⟨_, _, z3⟩ := stay fnew p z
              rw [hp] at z3
              cases z3
            have ok5 : Okk (dcM mp mk (fun _ => pure []) (xs.drop (i + 1)) (putL ys k2 []) s3) Q2 := ok4
            refine ⟨_, kk k2, r4.key_k, by rw [upd_ne (Ne.symm hpD)]; exact keep4.1, by rw [List.length_map, hvl]; exact lim_lt (by omega), putL ys k2 [], putL kas (kk k2) p, s3, F4, ⟨fall.ff, ex_keep (ex_keep fall.fh (Ex.none_of fall.fh hp)) keep4.2, fun b o h9 h10 h11 => ?_, fun b q => fall.dm b (dm_upd b (dm_upd b q))⟩, (hs4.keep (fun z => (hs4.at' p z).2.off hp rfl) (fun u e => by rw [hp] at e; cases e)).keep ns (fun u e => by rw [upd_ne (Ne.symm hpD), keep4.1] at e; cases e; rfl), keep4.2, by rw [upd_same, putK_ref], ?_, ⟨putL_nodup nd1, putL_vals nd1 nd2 npk, fun z hz => ?_, fun z hz => ?_⟩, putL_le hy, ok5⟩
            · rw [upd_ne (ne_of_none h11 hD), upd_ne (ne_of_none h11 np1)]
              exact fall.kq b o h9 h10 h11
            · have e1 := putL_keys (l := kas) (k := kk k2) (v := p)
              have e2 : (putL ys k2 ([] : List β)).map (fun p => kk p.1) = ((putL ys k2 ([] : List β)).map (·.1)).map kk := by rw [List.map_map]; rfl
              rw [e1, e2, putL_keys]
              have ea : (kas.any fun p => decide (p.1 = kk k2)) = ys.any fun p => decide (p.1 = k2) := by
                have := tab_any (kk := kk) O.inj k2 (kvs := kas.map fun a => (a.1, V.ref a.2)) (l := ys) (by rw [List.map_map]; exact hks)
                rw [List.any_map] at this
                exact this
              rw [ea]
              split
              · rw [List.map_map]; exact hks
              · rw [List.map_append, List.map_map, hks]; rfl
            · obtain ⟨q, hq, e⟩ := List.mem_map.mp hz
              rcases putL_mem hq with rfl | hq
              · rw [← e]
                exact ⟨np1, Ex.none_of fall.fh hp, by rw [upd_ne hpD]; exact upd_same⟩
              · obtain ⟨z1, z2, z3⟩ := stay fnew z (by rw [← e]; exact List.mem_map_of_mem hq)
                have zD : z ≠ Dl := fun w => by rw [w, keep4.1] at z3; cases z3
                exact ⟨z1, z2, by rw [upd_ne zD, upd_ne (ne_of_none z3 hp)]; exact z3⟩
            · rcases putL_mem hz with rfl | hz
              · rfl
              · exact hem z hz
          | false => exact ⟨ys, kas, s2, F3, (f'.trans fp.fr).trans f3, hs3, keep3.2, keep3.1, hks, ⟨nd1, nd2, stay (fp.fr.trans f3), hem⟩, Nat.le_succ_of_le hy, ok3⟩
    · have e0 : i = xs.length := by omega
      subst e0
      rw [List.drop_length] at ok2
      have ok3 : Q2 ys s' := ok2
      have hvl : kas.length = ys.length := by have := congrArg List.length hks; rwa [List.length_map, List.length_map] at this
      refine .inl ⟨it.stop F' H' R2.ex g0 _ (by rw [List.length_map]; exact Nat.le_refl _), ok3 Dl (Dl :: kas.map (·.2)) F' H' (fr.trans f') hs' (fun z hz => ?_) ⟨_, rfl, kas, hH', by rw [List.length_map]; exact Nat.le_trans hy few, rfl, nd2, ?_⟩⟩
      · rcases List.mem_cons.mp hz with rfl | hz
        · exact ⟨nH, hF', _, hH', rfl⟩
        · obtain ⟨z1, z2, z3⟩ := hin z hz
          exact ⟨Fr.none_of fr (R1.notSrc z1) z1, z2, _, z3, rfl⟩
      · clear ok2 ok3 hy hvl nd1 nd2 hH'
        induction ys generalizing kas with
        | nil => cases kas with | nil => exact .nil | cons => cases hks
        | cons p ys ih =>
          cases kas with
          | nil => cases hks
          | cons q kas =>
            refine .cons ⟨?_, ?_⟩ (ih kas (List.cons.inj hks).2 (fun z hz => hin z (List.mem_cons_of_mem _ hz)) fun z hz => hem z (List.mem_cons_of_mem _ hz))
            · have : q.1 = kk p.1 := (List.cons.inj hks).1
              rw [this]
              exact (O.enc p.1).symm
            · obtain ⟨_, _, z3⟩ := hin q.2 List.mem_cons_self
              have e0 := hem p List.mem_cons_self
              refine ⟨[], z3, ?_, ?_⟩
              · show (p.2.map eb).length ≤ LIM
                rw [e0]; exact Nat.zero_le _
              · show Reps c.K F' [] (p.2.map eb)
                rw [e0]; exact .nil
theorem dw_dcl [Cool c] {bind : α → List Sl → List Sl} {js : List Nat} {fz : Bool} {mi : M (List α)} {mp : α → M Bool} {mk : α → M κ} (O : Kk ek kk) (eb : β → D) (own : List (Str × Nat)) (ok : blkC c.N c.sc scope own = true) (hit : DI c tg e fz ρ enc mi) (hg : DG (c.blk scope) tg js enc bind) (hj : ∀ j ∈ js, j ∈ own.map (·.2))
    (ht : ∀ x, DQM (c.blk scope) ifs (bind x (wipeS ρ (own.map (·.2)))) (mp x)) (hk : ∀ x, DM (c.blk scope) kx (bind x (wipeS ρ (own.map (·.2)))) ek (mk x)) (hs : ∀ env x, foldedSetIterable e env x = pure x := by intro _ _; rfl) :
    DW c (.DictComp kx (.List [] p2) [⟨tg, e, ifs, 0⟩] scope pos) ρ (oL (β := β) ek eb) (mi >>= fun xs => dcM mp mk (fun _ => pure []) xs []) := by
  obtain ⟨wi, g, tt, tk, h1, h3, h5, h7, ev⟩ := dw_dcl_parts O eb own ok hit hg hj ht hk
  refine ⟨tDc wi g tt tk (tLst tNil) (own.map (·.2)), fun X I => ?_, ev⟩
  have ok' : BlkOk X.N X.env.scope scope own := by
    rw [I.N, I.sc]
    exact blkOk_by ok
  exact pe_dc (I.calm Cool.h) I.nd (h1 X I) ok' (fun s H C cl fp => h3 _ (blk_is I s H C cl fp)) (fun s H C cl fp => h5 _ (blk_is I s H C cl fp)) (fun s H C cl fp => h7 _ (blk_is I s H C cl fp)) (fun s H C cl fp => pe_lst pa_nil) (hs _)
end
end Dl

/-! Dl, part Z: fields that hold tables; setdefault; keys gone through; lists of keys; moves. -/
namespace Dl
open PySem PySem.Spec PyProof.Rows L2
open Evl (Ex)
theorem putF_new {f : Str} {v : V} : ∀ {gs : List (Str × V)} {fs : List (Str × D)}, gs.map (·.1) = fs.map (·.1) → fs.lookup f = none → putF f v gs = gs ++ [(f, v)]
  | [], [], _, _ => rfl
  | [], _ :: _, h, _ => by cases h
  | _ :: _, [], h, _ => by cases h
  | (g, w) :: gs, (g', d') :: fs, h, hl => by
    have h1 : g = g' := (List.cons.inj h).1
    have h2 := (List.cons.inj h).2
    subst h1
    rw [List.lookup_cons] at hl
    split at hl
    · cases hl
    · rename_i q
      unfold putF
      rw [if_neg (fun e => by rw [e] at q; simp at q), putF_new h2 hl]
      rfl
section
variable {c : Ct} {e a b f elt tg kx vx pe : Expr} {es ifs : List Expr} {sts rest : List Stmt} {ρ ρ1 : List Sl} {d d1 d2 : D} {α β γ κ χ : Type} [DecidableEq κ] {ek : κ → D} {kk : κ → Key} {kt : κ → List Key} {enc : α → D} {eb : β → D} {m : M α} {pos p2 p3 p4 p5 p6 p7 p8 : Pos} {x y : Str} {aS : Option Addr} {K : Kx} {F F' H H' : Hp} {s s' : List D} {σ : L2.St} {B : Bs} {out : γ → Oc} {scope : Scope}
/-- x.f = a new table of lists, x an object of one's own -/
theorem ds_setFW (i : Nat) (tg : Bool) (n f : Str) (fs : List (Str × D)) {o : α → List (D × List D)} {C : Addr} {k : α → M γ} (hN : c.N[i]? = some x) (hv : Vis c.sc x) (h0 : ρ[i]? = some (.oo (.ob tg n fs))) (hc : c.K.cm n = some C) (hn : NoAttr c.K.K C f) (hz : fs.length < 1000) (hlk : fs.lookup f = none) (he : DW c e ρ (fun a => .dl (o a)) m)
    (hr : ∀ z, DS c rest (ρ.set i (.oo (.od tg n fs f (o z)))) out (k z)) (hd : (x == ("__debug__" : Str)) = false := by decide) (hcd : (x == ("__classdict__" : Str)) = false := by decide) (hs : ∀ env, swapsWith e (some (.Attribute (.Name x p2) f p3)) pos.line env = pure false := by intro _; rfl) :
    DS c (.Assign [.Attribute (.Name x p2) f p3] e pos :: rest) ρ out (m >>= k) := by
  obtain ⟨t, a1, a2⟩ := he
  obtain ⟨w, c1, c2⟩ := DS.all hr
  refine ⟨tSeq (sFld c.K.K (tVar i) t f) w, fun X I => pss_cons (by rw [← I.K]; exact ps_fld (pe_var (i := i) (by rw [I.N]; exact hN) (by rw [I.sc]; exact hv) hd hcd) (a1 X I) (hs _)) (c1 X I), fun aS B s F H σ R E q => a2 aS B s F H σ R _ (q.bind.imp fun y s1 q1 p fp F1 H1 f1 hs1 hp r1 => ?_)⟩
  have R1 := R.step f1 hs1
  obtain ⟨a, e1, nb, ns, hF, r⟩ := R1.ownOb h0
  obtain ⟨C', dx, gs, h1, h2, h3, h4, h5, h6, h7, h8⟩ := id r
  have hCC : C' = C := by have h1 := h1.1; rw [hc] at h1; exact (Option.some.inj h1).symm
  subst hCC
  have hl : gs.length = fs.length := by have := congrArg List.length h7; simpa using this
  obtain ⟨a0, e0, nb0, ns0, nF0, C0, dx0, gs0, g1, g2, g3, g4, g5, g6, g7, g8⟩ := R.ownOb h0
  cases e1.symm.trans e0
  have hne : dx ≠ a := fun z => by rw [z, h2] at h3; cases h3
  have nfp : ∀ {q : Addr} {u : HO}, H q = some u → q ∉ fp := fun {q u} hq z => by
    have := (hp q z).1
    rw [hq] at this
    cases this
  obtain ⟨as, rfl, da⟩ := r1
  obtain ⟨k1, k2⟩ := f1.kp a _ nF0 ns0 g2
  obtain ⟨k3, k4⟩ := f1.kp dx0 _ g4 g6 g3
  have edx : dx0 = dx := by
    have := k1.symm.trans h2
    injection this with this
    injection this
  subst edx
  have np : p ≠ a := fun z => nfp g2 (by rw [z]; exact List.mem_cons_self)
  refine ⟨_, e1, a, C', dx0, gs, rfl, h2, (c.g.cls n C' hc).cl, hn, by omega, c2 y aS B s1 F1 _ σ (R.mutO h0 e1 f1.ff (ex_keep f1.fh hF) (hs1.keep ns (fun u e => by rw [h2] at e; cases e; rfl)) (fun gp r0 k => ?_) fun a h => R.stands (f1.dm a (dm_upd a h))) E q1⟩
  obtain ⟨C2, dx2, gs2, rfl, j1, j2, j3, j4, j5⟩ := r0
  have edx2 : dx2 = dx0 := by
    have := j2.symm.trans g2
    injection this with this
    injection this
  subst edx2
  rw [putF_new h7 hlk]
  refine ⟨a :: dx2 :: p :: as, ⟨a, rfl, C', dx2, gs, p, as, rfl, ⟨hc, j1.2⟩, upd_same, by rw [upd_ne hne]; exact h3, h7, h8, da.loc (upd_ne np) (fun z hz => upd_ne fun w => nfp g2 (by rw [← w]; exact List.mem_cons_of_mem _ hz)) (Ex.refl _)⟩, fun q hq => ?_, fun q u hq e2 e3 e4 e8 => ?_⟩
  · rcases List.mem_cons.mp hq with rfl | hq
    · exact ⟨.inl List.mem_cons_self, hF, _, upd_same, rfl⟩
    rcases List.mem_cons.mp hq with rfl | hq
    · exact ⟨.inl (List.mem_cons_of_mem _ List.mem_cons_self), h4, .own a, by rw [upd_ne hne]; exact h3, rfl⟩
    · obtain ⟨z1, z2, u, z3, z4⟩ := hp q hq
      exact ⟨.inr z1, z2, u, by rw [upd_ne (fun z => nfp g2 (by rw [← z]; exact hq))]; exact z3, z4⟩
  · rw [upd_ne (fun z => hq (by rw [z]; exact List.mem_cons_self))]
    exact f1.kq q u e2 e3 e4 e8
theorem few2 {p4 : Pos} {b f : Expr} (h1 : ∀ env, starEach [b, f] env = (false, eval b env) :: starEach [f] env) (h2 : NoStar f) (env : Env) : ((backTo p4 (starEach [b, f] env)).all (fun x => !x.1) && (backToKw p4 (keywordEach [] env)).all (fun x => x.1.isSome) && decide (([b, f] : List Expr).length + ([] : List Keyword).length + (if ([] : List Keyword).isEmpty then 0 else 1) < 30)) = true := by
  rw [h1, h2] <;> rfl
end
end Dl

/-! Dl, part AB: options; tables of objects let go. -/
namespace Dl
open PySem PySem.Spec PyProof.Rows L2
open Evl (Ex)
theorem encL_D {κ β : Type} {ek : κ → D} {e : β → D} (l : List (κ × List β)) : D.dct ((encL ek e l).map fun p => (p.1, D.lst p.2)) = eDk ek (eL e) l := by
  show D.dct _ = D.dct _
  rw [List.map_map]
  rfl
section
variable {aS : Option Addr} {K : Kx} {B : Bs} {F F' H H' : Hp} {s : List D} {σ : L2.St} {ρ : List Sl} {c : Ct} {sts : List Stmt} {γ α : Type} {out : γ → Oc} {e : Expr} {enc : α → D} {m : M α}
theorem REnv.freezeTab {i : Nat} {t : Bool} {n f : Str} {fs : List (Str × D)} {l : List (D × List D)} (R : REnv aS K B s F H σ ρ) (hi : ρ[i]? = some (.oo (.od t n fs f l))) :
    ∃ q u, H q = some u ∧ Mut (some u) ∧ ∀ od, ∃ F', Ex F F' ∧ REnv aS K B s F' (upd H q (.frz od u)) σ (ρ.set i (.oo (.ob t n (fs ++ [(f, .dct (l.map fun p => (p.1, .lst p.2)))])))) := by
  obtain ⟨fp, k1, k2, k3⟩ := R.view i
  obtain ⟨a, fp0, hσ, _, _⟩ := R.ownO hi
  obtain ⟨a', e1, C, dx, gs, q, as, rfl, g1, g2, g3, g4, g5, r⟩ := k2 _ _ hσ hi
  cases e1
  have m1 : q ∈ a :: dx :: q :: as := List.mem_cons_of_mem _ (List.mem_cons_of_mem _ List.mem_cons_self)
  have m2 : ∀ p ∈ as, p ∈ a :: dx :: q :: as := fun p hp => List.mem_cons_of_mem _ (List.mem_cons_of_mem _ (List.mem_cons_of_mem _ hp))
  have hq : ∃ kas : List (Key × Addr), H q = some (.dK (kas.map fun p => (p.1, V.ref p.2))) := ⟨_, r.choose_spec.1⟩
  obtain ⟨kas, hq⟩ := hq
  have na : a ≠ q := fun z => by rw [z, hq] at g2; cases g2
  have nd : dx ≠ q := fun z => by rw [z, hq] at g3; cases g3
  have nas : a ∉ q :: as := fun z => by
    rcases List.mem_cons.mp z with z | z
    · exact na z
    · obtain ⟨vs, h⟩ := r.lists a z
      rw [g2] at h
      cases h
  have nds : dx ∉ q :: as := fun z => by
    rcases List.mem_cons.mp z with z | z
    · exact nd z
    · obtain ⟨vs, h⟩ := r.lists dx z
      rw [g3] at h
      cases h
  refine ⟨q, _, hq, trivial, fun od => ?_⟩
  let H2 := upd H q (.frz od (.dK (kas.map fun p => (p.1, V.ref p.2))))
  have e2 : Ex F (knowAll (q :: as) F H2) := fun b u e => by
    have : b ∉ q :: as := fun z => by
      have hm : b ∈ a :: dx :: q :: as := List.mem_cons_of_mem _ (List.mem_cons_of_mem _ z)
      have := (k1 b hm).1.nF
      rw [e] at this
      cases this
    rw [knowAll_out this]
    exact e
  have R2 := k3 (F' := knowAll (q :: as) F H2) (H' := H2) (s' := s) (x' := some (.ref a)) (y' := .oo (.ob t n (fs ++ [(f, .dct (l.map fun p => (p.1, .lst p.2)))]))) e2 (ex_knownAll (ex_keep R.ex (k1 q m1).1.nF)) ⟨tabs_upd R.src.tb (fun u e => by rw [hq] at e; cases e; rfl), nf_know R.src.tb R.src.nf (fun a ha => (k1 a (List.mem_cons_of_mem _ (List.mem_cons_of_mem _ ha))).2), fun b hb => by
    obtain ⟨h1, h2⟩ := R.src.at' b hb
    have nb : b ∉ q :: as := fun z => (k1 b (List.mem_cons_of_mem _ (List.mem_cons_of_mem _ z))).1.ns hb
    exact ⟨by rw [knowAll_out nb]; exact h1, h2.loc (by show upd H q _ b = _; exact upd_ne (fun z => nb (by rw [z]; exact List.mem_cons_self))) e2⟩⟩
    ⟨[a, dx], ⟨a, rfl, C, dx, gs ++ [(f, .ref q)], rfl, g1, by show upd H q _ a = _; rw [upd_ne na]; exact g2, by show upd H q _ dx = _; rw [upd_ne nd]; exact g3, by rw [List.map_append, List.map_append, g4]; rfl, ?_⟩, fun p hp => ?_, fun p u hp f1 _ f2 _ => ?_⟩ fun a h => R.stands (dm_upd a h)
  · rw [set_self hσ] at R2
    exact ⟨_, e2, R2⟩
  · rw [List.map_append, List.map_append]
    refine (g5.mono e2).append (.cons (r.repL e2 ⟨od, _, hq, by rw [knowAll_in List.mem_cons_self]; exact upd_same⟩ fun p hp hne => ?_) .nil)
    rw [knowAll_in (List.mem_cons_of_mem _ hp)]
    exact upd_ne hne
  · rcases List.mem_cons.mp hp with rfl | hp
    · exact ⟨.inl List.mem_cons_self, by rw [knowAll_out nas]; exact (k1 p List.mem_cons_self).1.nF, .ins C dx (gs ++ [(f, .ref q)]), by show upd H q _ p = _; rw [upd_ne na]; exact g2, rfl⟩
    · cases List.mem_singleton.mp hp
      exact ⟨.inl (List.mem_cons_of_mem _ List.mem_cons_self), by rw [knowAll_out nds]; exact (k1 dx (List.mem_cons_of_mem _ List.mem_cons_self)).1.nF, .own a, by show upd H q _ dx = _; rw [upd_ne nd]; exact g3, rfl⟩
  · refine ⟨by show upd H q _ p = _; rw [upd_ne (fun z => hp (by rw [z]; exact m1))]; exact f2, .inl ?_⟩
    rw [knowAll_out (fun z => hp (List.mem_cons_of_mem _ (List.mem_cons_of_mem _ z)))]
    exact f1
theorem ds_freezeTab (i : Nat) (t : Bool) (nm : Str) (fs : List (Str × D)) (f : Str) (l : List (D × List D)) {d : D} (hd : D.dct (l.map fun p => (p.1, D.lst p.2)) = d) {n : M γ} (hρ : ρ[i]? = some (.oo (.od t nm fs f l))) (h : DS c sts (ρ.set i (.oo (.ob t nm (fs ++ [(f, d)])))) out n) : DS c sts ρ out n := by
  subst hd
  obtain ⟨t, h1, h2⟩ := h
  refine ⟨tLkS t, fun X I => pss_lk (h1 X I), fun aS B s F H σ R E q => ?_⟩
  obtain ⟨p, u, hu, mu, k⟩ := R.freezeTab hρ
  refine ⟨p, u, hu, mu, fun od => ?_⟩
  obtain ⟨F', _, R1⟩ := k od
  exact h2 aS B s F' _ σ R1 E q
end
end Dl

/-! Dl, part AC: fields of objects of one's own, read; calls that borrow lists. -/
namespace Dl
open PySem PySem.Spec PyProof.Rows L2
open Evl (Ex)
/-- m, with no source at hand -/
def nd {α : Type} (m : M α) : M α := fun s => match m [] with
  | .ok a _ => .ok a s
  | .stuck => .stuck
theorem Okk.nd {α : Type} {m : M α} {s : List D} {P : α → List D → Prop} (h : Okk (nd m s) P) : Okk (m []) fun a _ => P a s := by
  unfold Dl.nd at h
  cases e : m [] with
  | ok a s' => rw [e] at h; exact h
  | stuck => rw [e] at h; exact h.elim
structure NoRef {R : Type} (eB : R → D) : Prop where
  rep : ∀ {K : Kx} {F F' : Hp} {v : V} (b : R), Rep K F v (eB b) → Rep K F' v (eB b)
theorem NoRef.int : NoRef D.int := ⟨fun b r => by rw [r.int_inv]; exact .int b⟩
theorem NoRef.bl : NoRef D.bl := ⟨fun b r => by rw [r.bl_inv]; exact .bl b⟩
theorem NoRef.str : NoRef D.str := ⟨fun b r => by rw [r.str_inv]; exact .str b⟩
section
variable {c : Ct} {e a b : Expr} {es : List Expr} {sts rest : List Stmt} {ρ ρ1 : List Sl} {d d1 d2 : D} {ds l : List D} {α β γ A A' R : Type} {enc : α → D} {m : M α} {pos p2 p3 p4 : Pos} {x f : Str} {aS : Option Addr} {K : Kx} {F F' H H' : Hp} {s : List D} {σ : L2.St} {B : Bs}
/-- known, or a list of one's own -/
inductive LRep (aS : Option Addr) (K : Kx) (F H : Hp) : V → D → Prop
  | of {v : V} {d : D} (r : Rep K F v d) : LRep aS K F H v d
  | ow {a : Addr} {vs : List V} {l : List D} (ns : aS ≠ some a) (hF : F a = none) (hH : H a = some (.lst vs)) (hz : l.length ≤ LIM) (r : Reps K F vs l) : LRep aS K F H (.ref a) (.lst l)
theorem LRep.step {v : V} {d : D} (f : Fr aS F H F' H') (r : LRep aS K F H v d) : LRep aS K F' H' v d := by
  cases r with
  | of r => exact .of (r.mono f.ff)
  | ow ns hF hH hz r =>
    obtain ⟨h1, h2⟩ := f.kp _ _ hF ns hH
    exact .ow ns h2 h1 hz (r.mono f.ff)
theorem lookup_first {f : Str} {v w : V} {k : Str} : ∀ {gs : List (Str × V)}, gs.lookup f = some v → (gs ++ [(k, w)]).lookup f = some v
  | [], h => by cases h
  | (g, u) :: gs, h => by
    rw [List.cons_append, List.lookup_cons]
    rw [List.lookup_cons] at h
    split at h
    · exact h
    · exact lookup_first h
theorem dp_fldT (i : Nat) {t : Bool} {n f k : Str} {fs : List (Str × D)} {l : List (D × List D)} {C : Addr} (hN : c.N[i]? = some x) (hv : Vis c.sc x) (hρ : ρ[i]? = some (.oo (.od t n fs k l))) (hc : c.K.cm n = some C) (hn : NoAttr c.K.K C f) (hl : fs.lookup f = some d) (hd : (x == ("__debug__" : Str)) = false := by decide) (hcd : (x == ("__classdict__" : Str)) = false := by decide) : DP c (.Attribute (.Name x p2) f p3) ρ d := by
  refine ⟨tFld c.K.K (tVar i) f, fun X I => by rw [← I.K]; exact pe_fld (pe_var (i := i) (by rw [I.N]; exact hN) (by rw [I.sc]; exact hv) hd hcd) rfl, fun aS B s F H σ R Q q => ?_⟩
  obtain ⟨a, fp, e, ⟨C', dx, gs, qq, as, _, h1, h2, h3, h7, h8, _⟩, _⟩ := R.ownO hρ
  have hCC : C' = C := by have h1 := h1.1; rw [hc] at h1; exact (Option.some.inj h1).symm
  subst hCC
  obtain ⟨v, hv, rv⟩ := look_both (K := c.K) (F := F) h7 (fun i y z e1 e2 => h8.at i _ _ (by rw [List.getElem?_map, e1]; rfl) (by rw [List.getElem?_map, e2]; rfl)) hl
  exact ⟨_, e, a, C', dx, _, v, rfl, h2, (c.g.cls n C' hc).cl, hn, lookup_first hv, q v F H (Fp.refl R.ex) rv⟩
end
end Dl

/-! Dl, part AD: a comprehension given to a name. -/
namespace Dl
open PySem PySem.Spec PyProof.Rows L2
open Evl (Ex)
theorem sw_cellD {kx vx : Expr} {gs : List Comprehension} {scope : Scope} {pos py : Pos} {y : Str} {l : Nat} {env : Env} (hy : env.scope.names.lookup y = some .cell) : swapsWith (.DictComp kx vx gs scope pos) (some (.Name y py)) l env = pure false := by
  have ky : env.kindOf y = some .cell := hy
  unfold swapsWith
  simp only [ky]
  have : (some NameKind.cell == some NameKind.local) = false := by decide
  rw [this, Bool.and_false, Bool.false_and, Bool.false_and]
section
variable {c : Ct} {e a b f elt tg kx vx pe : Expr} {es ifs : List Expr} {sts rest : List Stmt} {ρ ρ1 : List Sl} {d d1 d2 : D} {α β γ κ χ : Type} [DecidableEq κ] {ek : κ → D} {kk : κ → Key} {kt : κ → List Key} {enc : α → D} {eb : β → D} {m : M α} {pos p2 p3 p4 p5 p6 p7 p8 : Pos} {x y : Str} {out : γ → Oc} {scope : Scope}
/-- x = e, e a new list; a new thing: the statement's own form -/
def DOA {α : Type} (c : Ct) (x : Str) (p2 pos : Pos) (i : Nat) (e : Expr) (ρ : List Sl) (eA : α → List D) (m : M α) : Prop := ∃ t, (∀ X, c.Is X → PS X (.Assign [.Name x p2] e pos) (tAsg t (gName i))) ∧ EvO c.K t ρ eA m
def DWA {α : Type} (c : Ct) (x : Str) (p2 pos : Pos) (i : Nat) (e : Expr) (ρ : List Sl) (o : α → Ow) (m : M α) : Prop := ∃ t, (∀ X, c.Is X → PS X (.Assign [.Name x p2] e pos) (tAsg t (gName i))) ∧ EvW c.K t ρ o m
theorem ds_setOA (i : Nat) {eA : α → List D} {k : α → M γ} (he : DOA c x p2 pos i e ρ eA m) (hr : ∀ a, DS c rest (ρ.set i (.ow (eA a))) out (k a)) : DS c (.Assign [.Name x p2] e pos :: rest) ρ out (m >>= k) := by
  obtain ⟨t, h1, h2⟩ := he
  obtain ⟨u, h3, h4⟩ := DS.all hr
  exact ⟨_, fun X I => pss_cons (h1 X I) (h3 X I), fun aS B s F H σ R E q => h2 aS B s F H σ R _ (q.bind.imp fun a s1 q1 p vs F1 H1 f hs hp ns hF hH hz r => h4 a aS B s1 F1 H1 _ (R.setOw f hs hp hF hH hz r) E q1)⟩
theorem ds_setWA (i : Nat) {o : α → Ow} {k : α → M γ} (he : DWA c x p2 pos i e ρ o m) (hr : ∀ a, DS c rest (ρ.set i (.oo (o a))) out (k a)) : DS c (.Assign [.Name x p2] e pos :: rest) ρ out (m >>= k) := by
  obtain ⟨t, h1, h2⟩ := he
  obtain ⟨u, h3, h4⟩ := DS.all hr
  exact ⟨_, fun X I => pss_cons (h1 X I) (h3 X I), fun aS B s F H σ R E q => h2 aS B s F H σ R _ (q.bind.imp fun a s1 q1 p fp F1 H1 f hs hp r =>
    h4 a aS B s1 F1 H1 _ (R.change f.ff f.fh hs (fun gp _ _ => ⟨fp, ⟨p, rfl, r⟩, fun q hq => ⟨.inr (hp q hq).1, (hp q hq).2⟩, fun q o _ g1 g2 g3 => f.kq q o g1 g2 g3⟩) fun a h => R.stands (f.dm a h)) E q1)⟩
theorem dwa_cell (i : Nat) {o : α → Ow} {gs : List Comprehension} (hN : c.N[i]? = some x) (hx : Loc c.sc x) (hf : FnL c x) (hc : c.sc.names.lookup x = some .cell) (he : DW c (.DictComp kx vx gs scope p3) ρ o m) : DWA c x p2 pos i (.DictComp kx vx gs scope p3) ρ o m := by
  obtain ⟨t, h1, h2⟩ := he
  exact ⟨t, fun X I => ps_set I.nd (by rw [I.N]; exact hN) (loc_of I hx) (h1 X I) (sw_cellD (by rw [I.sc]; exact hc)) (fnl_of I hf), h2⟩
theorem doa_lc [Cool c] (i : Nat) {bind : α → List Sl → List Sl} {js : List Nat} {fz : Bool} {mi : M (List α)} {mp : α → M Bool} {mf : α → M β} (hN : c.N[i]? = some x) (hx : c.sc.names.lookup x = some .local) (hk : c.sc.kind = .function) (hln : (p2.line == p3.line) = true) (hno : (scope.names.any fun (n, k) => n == x && (k == .local || k == .cell)) = false)
    (own : List (Str × Nat)) (ok : blkC c.N c.sc scope own = true) (hit : DI c tg e fz ρ enc mi) (hg : DG (c.blk scope) tg js enc bind) (hj : ∀ j ∈ js, j ∈ own.map (·.2))
    (ht : ∀ x, DQM (c.blk scope) ifs (bind x (wipeS ρ (own.map (·.2)))) (mp x)) (hf : ∀ x, DM (c.blk scope) elt (bind x (wipeS ρ (own.map (·.2)))) eb (mf x)) (hs : ∀ env x, foldedSetIterable e env x = pure x := by intro _ _; rfl) :
    DOA c x p2 pos i (.ListComp elt [⟨tg, e, ifs, 0⟩] scope p3) ρ (fun l => l.map eb) (mi >>= fun xs => lcM mp mf xs) := by
  obtain ⟨wi, g, tt, te, h1, h3, h5, h7, ev⟩ := lc_parts own ok hit hg hj ht hf
  refine ⟨tLc wi g tt te (own.map (·.2)), fun X I => ?_, ev⟩
  have ok' : BlkOk X.N X.env.scope scope own := by
    rw [I.N, I.sc]
    exact blkOk_by ok
  exact ps_setLc (I.calm Cool.h) I.nd (by rw [I.N]; exact hN) (by rw [I.sc]; exact hx) (sw_true (by rw [I.sc]; exact hk) (by rw [I.sc]; exact hx) hln hno) (h1 X I) ok' (fun s H C cl fp => h3 _ (blk_is I s H C cl fp)) (fun s H C cl fp => h5 _ (blk_is I s H C cl fp)) (fun s H C cl fp => h7 _ (blk_is I s H C cl fp)) (hs _)
end
end Dl

/-! Dl, part AE: a source used at once; remove, extend. -/
namespace Dl
open PySem PySem.Spec PyProof.Rows L2
open Evl (Ex)
section
variable {c : Ct} {e a b : Expr} {es : List Expr} {sts rest : List Stmt} {ρ ρ1 : List Sl} {d d1 d2 : D} {ds l : List D} {α β γ δ A R : Type} {enc : α → D} {eb : β → D} {m : M α} {pos p2 p3 p4 p5 p6 : Pos} {x y : Str} {aS : Option Addr} {K : Kx} {F F' H H' : Hp} {s : List D} {σ : L2.St} {B : Bs} {out : γ → Oc}
end
end Dl

/-! Dl, part AF: tuples whose object is known; index. -/
namespace Dl
open PySem PySem.Spec PyProof.Rows L2
open Evl (Ex)
abbrev eN {α : Type} (e : α → D) (l : List α) : D := .tpd (l.map e)
def idxI (xs : List Int) (k : Int) : Option Int := if k ∈ xs then some (xs.idxOf k : Int) else none
def rTupN (K : PySem.W.Frag) : List V → Hp → VK → Prop := fun xs H Q => ∃ p ys, xs = [.ref p] ∧ SqL K H p ys ∧ ∀ (l : Addr) (o : Obj), H l = none → o.dict = none → Q (.ref l) (upd H l (.frz o (.tup ys)))
section
variable {X : Cx}
theorem call_tupN : CallR X (.type "tuple") (rTupN X.K) := by
  intro pins s σ H xs us Q I r h
  obtain ⟨p, ys, rfl, hq, q⟩ := h
  obtain ⟨u, rfl, rx⟩ := vals1 r
  cases rx
  obtain ⟨its, r', pl, hz⟩ := I.list hq
  have hlen := r'.length
  refine call_tuple_list pl.isList (fun g kp => ?_) (by simp only [List.size_toArray] <;> omega)
  have J : Inv X pins σ H { s with heap := g } := I.kept (t' := s.toks) kp
  exact ⟨.ref g.objs.size, upd H g.objs.size (.frz { cls := .type "tuple", data := .seq its.toArray } (.tup ys)),
    J.laid (t' := s.toks) (fun b o e => Heap.get?_push_of_some _ e) (Nat.le_refl _) (show ObjOk X.prog X.w _ _ _ (.frz { cls := .type "tuple", data := .seq its.toArray } (.tup ys)) from ⟨Heap.get?_push_size _ rfl, hz, its, r', IsTup.new _ _⟩), rfl, q _ _ (J.hok.fresh (Nat.le_refl _)) rfl⟩
def rIdxN (K : PySem.W.Frag) : V → List V → Hp → VK → Prop := fun x xs H Q => ∃ (p : Addr) (o : Obj) (ns : List Int) (k : Int), x = .ref p ∧ xs = [.int k] ∧ H p = some (.frz o (.tup (ns.map V.int))) ∧ k ∈ ns ∧ Q (.int (ns.idxOf k : Int)) H
theorem idx_at {k : Int} {us : List Value} {ns : List Int} (hi : IntsAre us ns) (hk : k ∈ ns) : ∃ hj : ns.idxOf k < us.toArray.size, eqk k us.toArray[ns.idxOf k] = true ∧ ∀ m (hm : m < us.toArray.size), m < ns.idxOf k → eqk k us.toArray[m] = false := by
  have hl : us.length = ns.length := hi.length
  have h1 : ns.idxOf k < ns.length := List.idxOf_lt_length_of_mem hk
  refine ⟨by rw [List.size_toArray]; omega, ?_, fun m hm hmj => ?_⟩
  · obtain ⟨t, e⟩ := hi.get (ns.idxOf k) k (by rw [List.getElem?_eq_getElem h1, List.getElem_idxOf])
    obtain ⟨h2, h3⟩ := List.getElem?_eq_some_iff.mp e
    have : us.toArray[ns.idxOf k] = .int k t := by simpa using h3
    rw [this]
    exact beq_self_eq_true k
  · have hmn : m < ns.length := by omega
    obtain ⟨t, e⟩ := hi.get m _ (List.getElem?_eq_getElem hmn)
    obtain ⟨h2, h3⟩ := List.getElem?_eq_some_iff.mp e
    have e1 : us.toArray[m] = .int ns[m] t := by simpa using h3
    rw [e1]
    exact List.not_of_lt_findIdx (p := (· == k)) (xs := ns) hmj
theorem mt_idxN : MtR X "tuple.index" (rIdxN X.K) := by
  intro pins s σ H x xs v us Q I rx rxs h
  obtain ⟨p, o, ns, k, rfl, rfl, hp, hk, q⟩ := h
  cases rx
  obtain ⟨u, rfl, ru⟩ := rxs.one
  obtain ⟨t, rfl⟩ := ru
  obtain ⟨its, rv, ⟨⟨cls, dd, data, sl⟩, ho, hc, n, hd⟩, hlen⟩ := I.tuple (.inl (.inr ⟨o, hp⟩))
  simp only at hc hd
  subst hc hd
  have hi := ints_of_vals rv
  obtain ⟨hj, h1, h2⟩ := idx_at hi hk
  exact call_meets PySem.F.slot_tuple_index ⟨_, ho, rfl⟩ PySem.F.entry_tuple_index (PySem.F.args_tuple_index_2 _ _)
    (TI.tuple_indexAt p its.toArray n dd sl (.int k t) (eqk k) (ns.idxOf k) hj h1 h2) ⟨ho, fun y hy => (eqk_gives hi y (by simpa using hy)).at _ _, .int (ns.idxOf k : Int), H, I.tok _, ⟨s.toks, rfl⟩, q⟩
def tIdxN (K : PySem.W.Frag) (to : TE) (t : TA) : TE := fun σ H Q => to σ H fun x H1 => (∃ p o vs, x = V.ref p ∧ H1 p = some (.frz o (.tup vs)) ∧ o.dict = none) ∧ t σ H1 fun xs H2 => rIdxN K x xs H2 Q
variable {o e : Expr} {es : List Expr} {to : TE} {t : TA} {apos cpos : Pos}
theorem pe_idxN (ho : PE X o to) (ha : PA X (e :: es) t) (hbase : attributeBase o "index" X.env (eval o X.env) = eval o X.env)
    (hfew : ((backTo cpos (starEach (e :: es) X.env)).all (fun x => !x.1) && (backToKw cpos (keywordEach [] X.env)).all (fun x => x.1.isSome) && decide ((e :: es).length + ([] : List Keyword).length + (if ([] : List Keyword).isEmpty then 0 else 1) < 30)) = true)
    (hline : (apos.endLine == cpos.line) = true) (hs : starEach (e :: es) X.env = (false, eval e X.env) :: starEach es X.env) (hplain : (backTo cpos (starEach es X.env)).any (·.1) = false) :
    PE X (.Call (.Attribute o "index" apos) (e :: es) [] cpos) (tIdxN X.K to t) := by
  refine ⟨fun pins s σ H Q I h => ?_⟩
  refine wpAny_Call_method_late hbase hfew hline rfl (thn (ho.run pins s σ H _ I h) fun v s1 ⟨x, H1, I1, r1, ty, q1⟩ => ?_)
  obtain ⟨p, ob, vs, rfl, hp, hd⟩ := ty
  cases r1
  obtain ⟨g1, _, _, _, o2, g2, g3, _⟩ := (show ObjOk X.prog X.w H1 s1.heap p (.frz ob (.tup vs)) from I1.hok p _ hp)
  refine ⟨"tuple", "tuple.index", PySem.F.plainAttrs_tuple, PySem.F.slot_tuple_index, PySem.F.type_tuple_index, ⟨o2, g2, g3⟩, fun a e => ?_, ?_⟩
  · cases e
    exact ⟨ob, g1, hd⟩
  have hA := ha.run cpos pins s1 σ H1 _ I1 q1
  rw [hs] at hA ⊢
  refine Calls.callWith_builtin (by show (false || (backTo cpos (starEach es X.env)).any (·.1)) = false; rw [hplain] <;> rfl) (Calls.evalArgs_plain ?_)
  exact thn hA fun us s2 ⟨ws, H2, I2, r2, q2⟩ => mt_idxN pins s2 σ H2 (.ref p) ws (.ref p) us Q I2 rfl r2 q2
end
section
variable {c : Ct} {e a b : Expr} {es : List Expr} {sts rest : List Stmt} {ρ ρ1 : List Sl} {d d1 d2 : D} {ds l : List D} {α β γ δ A R : Type} {enc : α → D} {eb : β → D} {m : M α} {pos p2 p3 p4 p5 p6 : Pos} {x y : Str} {aS : Option Addr} {K : Kx} {F F' H H' : Hp} {s : List D} {σ : L2.St} {B : Bs} {out : γ → Oc}
theorem oc_tupN (h : lstD d = some l) : OpC K (rTupN K.K) [d] (.tpd l) := fun aS F H vs e r Q q => by
  obtain ⟨v, rfl, r1⟩ := arg1 r
  obtain ⟨a, ws, rfl, h1, hz, r2⟩ := r1.list e h
  exact ⟨a, ws, rfl, h1, fun p o hp hd => q _ (upd F p (.frz o (.tup ws))) _ (Fp.new e hp) (Rep.mk_tpd upd_same hd hz (r2.mono (Ex.new (Ex.none_of e hp))))⟩
theorem cl_tupN (X : Cx) (I : c.Is X) : CallR X (.type "tuple") (rTupN c.K.K) := by
  rw [← I.K]
  exact call_tupN
theorem dm_tupN {ml : M (List α)} (hg : GI c "tuple") (hm : c.mg "tuple" = none) (ha : DN c a ρ (eL enc) ml) (hs : NoStar a := by intro _ _; rfl) : DM c (.Call (.Name "tuple" p2) [a] [] pos) ρ (eN enc) ml :=
  (dm_call1T (eR := eN enc) (f := fun l => pure l) cl_tupN (fun x s P h => okp (W := fun g => OpC c.K (rTupN c.K.K) [eL enc x] (eN enc g)) h (oc_tupN rfl)) hg hm (by decide +kernel) ha hs).eq (by simp)
theorem dm_lenN {ml : M (List α)} (hg : GI c "len") (hm : c.mg "len" = none) (ha : DN c a ρ (eN enc) ml) (hs : NoStar a := by intro _ _; rfl) : DM c (.Call (.Name "len" p2) [a] [] pos) ρ D.int (ml >>= fun l => pure (l.length : Int)) :=
  dm_call1B cl_len (fun x s P h => okp h (by have := oc_len (K := c.K) (d := eN enc x) rfl; rw [List.length_map] at this; exact this)) hg hm PySem.boot_len ha hs
theorem Eqs.tpd {k : Nat} [DecidableEq α] (E : Eqs enc k) (hk : k < 60) : Eqs (eN enc) (k + 1) := ⟨fun x y => by
  show PyData.eqv (py (.tpd (x.map enc))) (py (.tpd (y.map enc))) = _
  rw [py, py, PyData.eqv]; exact E.eqAll x y, fun x => by
  show (py (.tpd (x.map enc))).canLay0 = true
  rw [py, PyData.canLay0]; exact (E.all x).1, fun x => by
  show (py (.tpd (x.map enc))).depth ≤ _
  rw [py, PyData.depth]; have := (E.all x).2; omega, hk⟩
section
variable [DecidableEq α] {k : Nat} {mx : M α} {ms : M (List α)}
end
theorem it_tupN {p : Addr} {o : Obj} {vs : List V} {l : List D} (h3 : F p = some (.frz o (.tup vs))) (hz : l.length ≤ LIM) (rs : Reps K F vs l) : ItOk K (Itt K.K p) l (fun F2 _ => Ex F F2) := by
  have sq : ∀ {F2 H2 : Hp}, Ex F2 H2 → Ex F F2 → SqT K.K H2 p vs := fun ex g => .inl (.inr ⟨o, ex _ _ (g _ _ h3)⟩)
  refine ⟨hz, fun F2 H2 ex g i hi => ?_, fun F2 H2 ex g i hi => ?_, fun F2 H2 ex g i y H3 d hd hy => ?_⟩
  · obtain ⟨w, h4, _⟩ := rs.get (List.getElem?_eq_getElem hi)
    exact ⟨vs, w, sq ex g, h4⟩
  · exact ⟨vs, sq ex g, by rw [rs.length]; exact hi⟩
  · obtain ⟨rfl, hy⟩ := hy
    exact ⟨F2, Fp.refl ex, (rs.at i y d (hy vs (sq ex g)) hd).mono g⟩
theorem di_tupN {tg : Expr} {mx : M (List α)} (ha : DM c a ρ (eN enc) mx) : DI c tg a true ρ enc mx := by
  obtain ⟨t, h1, h2⟩ := ha
  refine ⟨iTup c.K.K t, fun X I => by rw [← I.K]; exact pi_tup (h1 X I), fun aS B s F H σ R Q q => h2 aS B s F H σ R _ (q.imp fun xs s1 q1 v F1 H1 f hs r => ?_)⟩
  obtain ⟨p, o, vs, e0, h3, hd, hz, rs⟩ := r.of_tpd
  exact ⟨p, e0, ⟨vs, .inl (.inr ⟨o, f.fh _ _ h3⟩)⟩, q1 _ F1 H1 _ f hs (it_tupN h3 hz rs) (fun F2 H2 f2 => f2.ff) fun _ F2 H2 g _ => g⟩
theorem di_enumN {kk : Nat} {mx : M (List α)} (hg : GI c "enumerate") (hm : c.mg "enumerate" = none) (ha : DM c a ρ (eN enc) mx) (hs : NoStar a := by intro _ _; rfl) : DI c (.Tuple es kk p5) (.Call (.Name "enumerate" p2) [a] [] pos) true ρ (eP D.int enc) (mx >>= fun xs => pure (enumI xs)) := by
  obtain ⟨t, q1, q2⟩ := ha
  refine ⟨iEnT c.K.K (tCons t tNil), fun X I => by rw [← I.K]; exact pi_enumT (gl_of I hg) (by rw [I.mg]; exact hm) (pa_cons (q1 X I) pa_nil (hs _ _)) (hs _ _), fun aS B s F H σ R Q q => ?_⟩
  refine q2 aS B s F H σ R _ (q.bind.imp fun xs s1 q1 v F1 H1 f hs1 r => ?_)
  obtain ⟨p, o, vs, e0, h3, hd, hz, rs⟩ := r.of_tpd
  subst e0
  rw [List.length_map] at hz
  have sq : ∀ {F2 H2 : Hp}, Ex F2 H2 → Ex F1 F2 → SqT c.K.K H2 p vs := fun ex g => .inl (.inr ⟨o, ex _ _ (g _ _ h3)⟩)
  refine ⟨p, vs, rfl, sq f.fh (Ex.refl _), ?_⟩
  exact q1 _ F1 H1 _ f hs1 (it_enum hz rs (G := fun F2 _ => Ex F1 F2) (fun F2 H2 _ g => g) (fun F2 H2 ex g i w hw => ⟨vs, w, sq ex g, rfl, hw⟩) (fun F2 H2 ex g i hi => ⟨vs, sq ex g, rfl, hi⟩) fun F2 H2 ex g i v H3 hy => by
      obtain ⟨T, w, e1, e2, e3, e4⟩ := hy
      exact ⟨T, w, e1, e2, e3, e4 vs (sq ex g)⟩) (fun F2 H2 f2 => f2.ff) fun _ F2 H2 g _ => g
/-- a slice that is not the whole -/
def cutN {α : Type} (xs : List α) (lo hi : Option Int) : M (List α) := if HT.sIx xs.length 0 lo = 0 ∧ HT.sIx xs.length xs.length hi = xs.length then stuck else pure (cutL xs lo hi)
theorem dm_sliceN {lo hi : Option Expr} {mx : M (List α)} {ml mh : M (Option Int)} (hx : DM c a ρ (eN enc) mx) (h1 : DPt c lo ρ ml) (h2 : DPt c hi ρ mh) : DM c (.Subscript a (.Slice lo hi none p2) pos) ρ (eT enc) (mx >>= fun xs => ml >>= fun l => mh >>= fun h => cutN xs l h) := by
  obtain ⟨t, a1, a2⟩ := hx
  obtain ⟨u, b1, b2⟩ := h1
  obtain ⟨w, c1, c2⟩ := h2
  refine ⟨tSl (rSlA c.K.K) t u w, fun X I => by rw [← I.K]; exact pe_slice sl_tupA (a1 X I) (b1 X I) (c1 X I), fun aS B s F H σ R Q q => a2 aS B s F H σ R _ (q.bind.imp fun xs s1 q1 v F1 H1 f1 hs1 r1 => b2 aS B s1 F1 H1 σ (R.step f1 hs1) _ (q1.bind.imp fun lo s2 q2 F2 H2 f2 hs2 => c2 aS B s2 F2 H2 σ ((R.step f1 hs1).step f2 hs2) _ (q2.bind.imp fun hi s3 q3 F3 H3 f3 hs3 => ?_)))⟩
  obtain ⟨p, o, vs, rfl, hp, hd, hz, rs⟩ := ((r1.mono f2.ff).mono f3.ff).of_tpd
  unfold cutN at q3
  split at q3
  · cases q3
  rename_i hc
  have hl : vs.length = xs.length := by rw [rs.length, List.length_map]
  rw [← hl] at hc
  have fall := (f1.trans f2).trans f3
  have q4 : ∀ v F' H', Fr aS F H F' H' → SrcAt aS c.K s3 F' H' → Rep c.K F' v (.tup ((cutL xs lo hi).map enc)) → Q v H' := q3
  rw [← cutL_map] at q4
  have rc := rs.cut lo hi
  exact ⟨p, vs, rfl, .inl (.inr ⟨o, f3.fh _ _ hp⟩), fun hw => absurd hw hc, fun hw n hn => q4 _ (upd F3 n _) _ (fall.trans (Fp.new f3.fh hn).fr) (hs3.stepP (Fp.new f3.fh hn)) (Rep.mk_tup upd_same (cut_le _ _ _ hz) (rc.mono (Ex.new (Ex.none_of f3.fh hn))))⟩
/-- the items of any tuple -/
def tupsD : D → Option (List D)
  | .tup l => some l
  | .tpd l => some l
  | _ => none
theorem di_tupA {tg : Expr} {mx : M D} (ha : DM c a ρ (fun d => d) mx) : DI c tg a true ρ (fun d => d) (mx >>= fun d => ofO (tupsD d)) := by
  obtain ⟨t, h1, h2⟩ := ha
  refine ⟨iTup c.K.K t, fun X I => by rw [← I.K]; exact pi_tup (h1 X I), fun aS B s F H σ R Q q => h2 aS B s F H σ R _ (q.bind.imp fun d s1 q1 v F1 H1 f hs r => ?_)⟩
  obtain ⟨l, hl, q2⟩ := q1.ofO
  have em : l.map (fun d : D => d) = l := List.map_id' l
  have q3 : ∀ (J : It) (F' H' : Hp) (G : Hp → Hp → Prop), Fr aS F H F' H' → SrcAt aS c.K s1 F' H' → ItOk c.K J l G → (∀ F'' H'', Fr aS F' H' F'' H'' → G F'' H'') → (true = true → ∀ F'' H'', Ex F' F'' → Ex F'' H'' → G F'' H'') → Q J H' := by
    rw [← em]; exact q2
  cases d with
  | tup l2 =>
    cases hl
    obtain ⟨p, vs, e0, h3, hz, rs⟩ := r.of_tup
    exact ⟨p, e0, ⟨vs, SqT.of (f.fh _ _ h3)⟩, q3 _ F1 H1 _ f hs (it_tup h3 hz rs) (fun F2 H2 f2 => f2.ff) fun _ F2 H2 g _ => g⟩
  | tpd l2 =>
    cases hl
    obtain ⟨p, o, vs, e0, h3, hd, hz, rs⟩ := r.of_tpd
    exact ⟨p, e0, ⟨vs, .inl (.inr ⟨o, f.fh _ _ h3⟩)⟩, q3 _ F1 H1 _ f hs (it_tupN h3 hz rs) (fun F2 H2 f2 => f2.ff) fun _ F2 H2 g _ => g⟩
  | _ => cases hl
theorem dm_idxN {ms : M (List Int)} {mk : M Int} (ha : DM c a ρ (eN D.int) ms) (hb : DM c b ρ D.int mk) (hs : NoStar b := by intro _ _; rfl) (hl : (p3.endLine == p4.line) = true := by rfl)
    (hbase : ∀ env, attributeBase a "index" env (eval a env) = eval a env := by intro _; rfl) :
    DM c (.Call (.Attribute a "index" p3) [b] [] p4) ρ D.int (ms >>= fun xs => mk >>= fun k => ofO (idxI xs k)) := by
  obtain ⟨t, h1, h2⟩ := ha
  obtain ⟨u, h3, h4⟩ := hb
  refine ⟨tIdxN c.K.K t (tCons u tNil), fun X I => ?_, fun aS B s F H σ R Q q => h2 aS B s F H σ R _ (q.bind.imp fun xs s1 q1 v F1 H1 f1 hs1 r1 => ?_)⟩
  · rw [← I.K]
    exact pe_idxN (h1 X I) (pa_cons (h3 X I) pa_nil (hs _ _)) (hbase _) (few1 hs _) hl (hs _ _) rfl
  · obtain ⟨p, o, vs, rfl, hF, hd, hz, rs⟩ := r1.of_tpd
    have := rs.ints
    subst this
    refine ⟨⟨p, o, _, rfl, f1.fh _ _ hF, hd⟩, h4 aS B s1 F1 H1 σ (R.step f1 hs1) _ (q1.bind.imp fun k s2 q2 w F2 H2 f2 hs2 r2 => ?_)⟩
    obtain ⟨j, hj, q3⟩ := q2.ofO
    unfold idxI at hj
    split at hj
    · rename_i hk
      cases hj
      exact ⟨p, o, xs, k, rfl, by rw [r2.int_inv], f2.fh _ _ (f2.ff _ _ hF), hk, q3 _ F2 H2 (f1.trans f2) hs2 (.int _)⟩
    · cases hj
end
end Dl

/-! Dl, part AG: stores side by side. -/
namespace Dl
open PySem PySem.Spec PyProof.Rows L2
open Evl (Ex)
section
variable {c : Ct} {a b : Expr} {es : List Expr} {rest : List Stmt} {ρ : List Sl} {α β γ : Type} {ea : α → D} {eb : β → D} {ma : M α} {mb : M β} {pos px py pt pt2 : Pos} {kt k2} {x y : Str} {out : γ → Oc}
end
end Dl

/-! Dl, part AH: comprehensions of two clauses. -/
namespace Dl
open PySem PySem.Spec PyProof.Rows L2
open Evl (Ex)
section
variable {c : Ct} {e e1 elt tg tg1 : Expr} {ifs ifs1 : List Expr} {ρ : List Sl} {α β δ : Type} {enc : α → D} {enc1 : δ → D} {eb : β → D} {pos : Pos} {scope : Scope}
theorem DI.all {ι : Type} {fz : Bool} {f : ι → List Sl} {n : ι → M (List δ)} (h : ∀ i, DI c tg1 e1 fz (f i) enc1 (n i)) : ∃ t, (∀ X, c.Is X → PI X tg1 e1 t) ∧ ∀ i, EvI c.K t fz (f i) enc1 (n i) :=
  ⟨fun σ H Q => ∃ i, (h i).choose σ H Q, fun X I => ⟨fun pins s σ H Q J ⟨i, z⟩ => ((h i).choose_spec.1 X I).run pins s σ H Q J z⟩, fun i aS B s F H σ R Q k => ⟨i, (h i).choose_spec.2 aS B s F H σ R Q k⟩⟩
end
end Dl

/-! Dl, part AI: displays of a dict of one item. -/
namespace Dl
open PySem PySem.Spec PyProof.Rows L2
open Evl (Ex)
section
variable {c : Ct} {kx vx : Expr} {ρ : List Sl} {β κ : Type} [DecidableEq κ] {ek : κ → D} {kk : κ → Key} {eb : β → D} {mk : M κ} {mv : M β} {pos : Pos}
theorem dw_disp1 (O : Kk ek kk) (hk : DM c kx ρ ek mk) (hv : DM c vx ρ eb mv) : DW c (.Dict [some kx] [vx] pos) ρ (fun p : κ × β => oK ek eb [p]) (mk >>= fun k => mv >>= fun v => pure (k, v)) := by
  obtain ⟨t, h1, h2⟩ := hk
  obtain ⟨u, h3, h4⟩ := hv
  refine ⟨tDisp [(t, u)], fun X I => pe_disp (pps_cons (h1 X I) (h3 X I) pps_nil) rfl rfl (by simp) (Nat.le_of_ble_eq_true rfl), fun aS B s F H σ R Q q p hp => ?_⟩
  have f0 := Fp.own (o := .dK []) R.ex hp
  have R0 := R.stepP f0
  refine h2 aS B s F _ σ R0 _ (q.bind.imp fun k s1 q1 x F1 H1 f1 hs1 r1 => ?_)
  refine h4 aS B s1 F1 H1 σ (R0.step f1 hs1) _ (q1.bind.imp fun v s2 q2 y F2 H2 f2 hs2 r2 => ?_)
  have ns := R.notSrc hp
  have f12 := f1.trans f2
  have hF := Ex.none_of R.ex hp
  obtain ⟨g1, g2⟩ := f12.kp p _ hF ns upd_same
  rw [O.enc] at r1
  cases r1.key_k
  refine ⟨g1, [(kk k, y)], rfl, Nat.le_of_ble_eq_true rfl, ?_⟩
  have f3 : Fr aS F H F2 (upd H2 p (.dK [(kk k, y)])) := ⟨f12.ff, ex_keep f12.fh g2, fun a o h5 h6 h7 h8 => by
    have ne : a ≠ p := fun z => by rw [z, hp] at h7; cases h7
    rw [upd_ne ne]
    exact f12.kq a o h5 h6 (by rw [upd_ne ne]; exact h7) h8, fun a h => dm_upd a (f12.dm a (dm_upd a h))⟩
  exact q2 p [p] F2 _ f3 (hs2.keep ns (fun u e => by rw [g1] at e; cases e; rfl)) (fun z hz => by cases List.mem_singleton.mp hz; exact ⟨hp, g2, _, upd_same, rfl⟩) ⟨rfl, [(kk k, y)], upd_same, Nat.le_of_ble_eq_true rfl, by rw [List.map_cons, List.map_cons, List.map_cons, O.enc]; rfl, .cons r2 .nil⟩
theorem dm_disp1 (O : Kk ek kk) (hk : DM c kx ρ ek mk) (hv : DM c vx ρ eb mv) : DM c (.Dict [some kx] [vx] pos) ρ (fun p : κ × β => D.dct [(ek p.1, eb p.2)]) (mk >>= fun k => mv >>= fun v => pure (k, v)) :=
  DW.toM (fun _ => rfl) (fun _ => rfl) (dw_disp1 O hk hv)
end
end Dl

/-! Dl, part AJ: a dict as the source (known answers that a def keeps for itself); while. -/
namespace Dl
open PySem PySem.Spec PyProof.Rows L2
open Evl (Ex)
open Classical in
/-- the items of the dict that the state is -/
noncomputable def unD {ι : Type} (eD : ι → D) (s : List D) : Option ι := if h : ∃ l, s = [eD l] then some h.choose else none
theorem unD_ok {ι : Type} {eD : ι → D} {s : List D} {l : ι} (h : unD eD s = some l) : s = [eD l] := by
  unfold unD at h
  split at h
  · rename_i q
    cases h
    exact q.choose_spec
  · cases h
theorem unD_eq {ι : Type} {eD : ι → D} (hi : ∀ l l', eD l = eD l' → l = l') (l : ι) : unD eD [eD l] = some l := by
  unfold unD
  have q : ∃ l', [eD l] = [eD l'] := ⟨l, rfl⟩
  rw [dif_pos q]
  have := q.choose_spec
  injection this with this _
  rw [← hi _ _ this]
section
variable {κ β : Type} [DecidableEq κ]
noncomputable def sHas (eD : List (κ × β) → D) (k : κ) : M Bool := fun s => match unD eD s with
  | some l => .ok (getL l k).isSome s
  | none => .stuck
noncomputable def sGet (eD : List (κ × β) → D) (k : κ) : M β := fun s => match unD eD s with
  | some l => (match getL l k with
    | some v => .ok v s
    | none => .stuck)
  | none => .stuck
noncomputable def sPut (eD : List (κ × β) → D) (k : κ) (v : β) : M Unit := fun s => match unD eD s with
  | some l => if (putL l k v).length ≤ LIM ∧ l.length ≤ LIM then .ok () [eD (putL l k v)] else .stuck
  | none => .stuck
/-- .. where nothing is drawn -/
def withK {γ : Type} (d : D) (m : M γ) : M γ := fun s => if s = [] then (match m [d] with
  | .ok g _ => .ok g s
  | .stuck => .stuck) else .stuck
theorem Okk.sHas {eD : List (κ × β) → D} {k : κ} {s : List D} {P : Bool → List D → Prop} (h : Okk (sHas eD k s) P) : ∃ l, s = [eD l] ∧ P (getL l k).isSome s := by
  unfold Dl.sHas at h
  split at h
  · rename_i l q; exact ⟨l, unD_ok q, h⟩
  · cases h
theorem Okk.sGet {eD : List (κ × β) → D} {k : κ} {s : List D} {P : β → List D → Prop} (h : Okk (sGet eD k s) P) : ∃ l v, s = [eD l] ∧ getL l k = some v ∧ P v s := by
  unfold Dl.sGet at h
  split at h
  · rename_i l q
    split at h
    · rename_i v q2; exact ⟨l, v, unD_ok q, q2, h⟩
    · cases h
  · cases h
theorem Okk.sPut {eD : List (κ × β) → D} {k : κ} {v : β} {s : List D} {P : Unit → List D → Prop} (h : Okk (sPut eD k v s) P) : ∃ l, s = [eD l] ∧ ((putL l k v).length ≤ LIM ∧ l.length ≤ LIM) ∧ P () [eD (putL l k v)] := by
  unfold Dl.sPut at h
  split at h
  · rename_i l q
    split at h
    · rename_i hz; exact ⟨l, unD_ok q, hz, h⟩
    · cases h
  · cases h
theorem Okk.withK {γ : Type} {d : D} {m : M γ} {s : List D} {P : γ → List D → Prop} (h : Okk (withK d m s) P) : s = [] ∧ Okk (m [d]) fun g _ => P g s := by
  unfold Dl.withK at h
  split at h
  · rename_i hc
    refine ⟨hc, ?_⟩
    split at h
    · rename_i g s' q; rw [q]; exact h
    · cases h
  · cases h
end
theorem SrcX.brep {K : Kx} {F H : Hp} {a : Addr} {d : D} (hF : F a = none) (h : SrcX K F H a [d]) (hd : isDs [d] = true) : BRep none K F H (.ref a) d := by
  rcases h with ⟨h0, _⟩ | ⟨l, kvs, h0, h1, hz, hk, r⟩ | ⟨l, kvs, h0, h1, hz, hk, r⟩
  · rw [hd] at h0; cases h0
  · cases h0
    exact .ok (fun z => nomatch z) hF h1 hz hk r
  · cases h0
    exact .ot (fun z => nomatch z) hF h1 hz hk r
/-- a dict that may be the source -/
structure Dsc {κ β : Type} [DecidableEq κ] (ek : κ → D) (e : β → D) (eD : List (κ × β) → D) : Prop where
  rd : Dct ek e eD
  ds : ∀ l, isDs [eD l] = true
  put : ∀ {K : Kx} {F H : Hp} {a : Addr} {w v : V} {l : List (κ × β)} {k : κ} {y : β}, Ex F H → F a = none → SrcX K F H a [eD l] → Rep K F w (ek k) → Rep K F v (e y) → l.length ≤ LIM → (putL l k y).length ≤ LIM →
    ∃ o, DPut H a w v (upd H a o) ∧ SrcX K F (upd H a o) a [eD (putL l k y)]
section
variable {κ β : Type} [DecidableEq κ] {ek : κ → D} {e : β → D}
theorem Dsc.k {kk : κ → Key} (O : Kk ek kk) : Dsc ek e (eDk ek e) := ⟨Dct.k O, fun _ => rfl, fun {K F H a w v l k y} ex hF h rk rv hz hz2 => by
  rcases h with ⟨h0, _⟩ | ⟨l', kvs, h0, h1, hz', hk, r⟩ | ⟨l', kvs, h0, h1, hz', hk, r⟩
  · cases h0
  · cases h0
    rw [O.enc] at rk
    cases rk.key_k
    have hks := keys_k O hk
    rw [vals_m] at r
    obtain ⟨t1, t2⟩ := tab_put O.inj k rv hks r
    have hvl : kvs.length = l.length := by have := congrArg List.length hks; rwa [List.length_map, List.length_map] at this
    refine ⟨_, DPut.k h1 (by rw [hvl]; exact lim_lt hz), .inr (.inl ⟨_, putK kvs (kk k) v, rfl, upd_same, by rw [List.length_map]; exact hz2, keys_k' O t1, ?_⟩)⟩
    rw [vals_m]
    exact t2
  · cases h0⟩
theorem Dsc.t {kt : κ → List Key} (O : KkT ek kt) : Dsc ek e (eDt ek e) := ⟨Dct.t O, fun _ => rfl, fun {K F H a w v l k y} ex hF h rk rv hz hz2 => by
  rcases h with ⟨h0, _⟩ | ⟨l', kvs, h0, h1, hz', hk, r⟩ | ⟨l', kvs, h0, h1, hz', hk, r⟩
  · cases h0
  · cases h0
  · cases h0
    rw [O.enc] at rk
    obtain ⟨bb, rfl, hb⟩ := (BRep.of (aS := none) rk).key_t ex
    have hks := keys_t O hk
    rw [vals_m] at r
    obtain ⟨t1, t2⟩ := tab_put O.inj k rv hks r
    have hvl : kvs.length = l.length := by have := congrArg List.length hks; rwa [List.length_map, List.length_map] at this
    refine ⟨_, DPut.t h1 hb (by rw [hvl]; exact lim_lt hz), .inr (.inr ⟨_, putK kvs (kt k) v, rfl, upd_same, by rw [List.length_map]; exact hz2, keys_t' O t1, ?_⟩)⟩
    rw [vals_m]
    exact t2⟩
end
section
variable {c : Ct} {e a b : Expr} {es : List Expr} {sts rest : List Stmt} {ρ ρ1 : List Sl} {d d1 d2 : D} {ds l : List D} {α β γ δ κ A R : Type} {enc : α → D} {eb : β → D} {ek : κ → D} {m : M α} {pos p2 p3 p4 p5 p6 : Pos} {x y : Str} {aS : Option Addr} {K : Kx} {F F' H H' : Hp} {s : List D} {σ : L2.St} {B : Bs} {out : γ → Oc}
theorem REnv.srcK {i : Nat} (R : REnv aS K B s F H σ ρ) (h : ρ[i]? = some .sr) : ∃ p, σ[i]? = some (some (.ref p)) ∧ aS = some p ∧ F p = none ∧ SrcX K F H p s := by
  obtain ⟨_, _, e, ⟨p, rfl, hp⟩, _⟩ := R.slot h
  obtain ⟨h1, h2⟩ := R.src.at' p hp
  exact ⟨p, e, hp, h1, h2⟩
theorem dm_sget [DecidableEq κ] {eD : List (κ × β) → D} (i : Nat) {mk : M κ} (O : Dsc ek eb eD) (hN : c.N[i]? = some x) (hv : Vis c.sc x) (h0 : ρ[i]? = some .sr) (hb : DM c b ρ ek mk)
    (hd : (x == ("__debug__" : Str)) = false := by decide) (hcd : (x == ("__classdict__" : Str)) = false := by decide) (hs : NoSl b := by intro _ _; rfl) :
    DM c (.Subscript (.Name x p2) b pos) ρ eb (mk >>= fun k => sGet eD k) := by
  obtain ⟨u, h3, h4⟩ := hb
  refine ⟨tDGet (tVar i) u, fun X I => pe_dget (units1 I) (pe_var (i := i) (by rw [I.N]; exact hN) (by rw [I.sc]; exact hv) hd hcd) (h3 X I) hs, fun aS B s F H σ R Q q => ?_⟩
  obtain ⟨p, e1, e2, _, _⟩ := R.srcK h0
  refine ⟨_, e1, h4 aS B s F H σ R _ (q.bind.imp fun k s2 q2 w F2 H2 f2 hs2 r2 => ?_)⟩
  obtain ⟨l, y, rfl, hy, q3⟩ := q2.sGet
  obtain ⟨hF, hX⟩ := hs2.at' p e2
  obtain ⟨p', e3, _, _, _, g⟩ := O.rd.rd f2.fh (hX.brep hF (O.ds l))
  cases e3
  obtain ⟨z, hz, rz⟩ := (g w k (.of r2)).1 y hy
  exact ⟨p, z, rfl, hz, q3 z F2 H2 f2 hs2 rz⟩
theorem dm_shasG [DecidableEq κ] {eD : List (κ × β) → D} (i : Nat) {neg : Bool} {op : CmpOp} {mk : M κ} (hop : op = if neg then .NotIn else .In) (O : Dsc ek eb eD) (hN : c.N[i]? = some x) (hv : Vis c.sc x) (h0 : ρ[i]? = some .sr) (ha : DM c a ρ ek mk)
    (hd : (x == ("__debug__" : Str)) = false := by decide) (hcd : (x == ("__classdict__" : Str)) = false := by decide) :
    ∃ t, (∀ X, c.Is X → PC X op a (.Name x p2) t) ∧ EvM c.K t ρ D.bl (mk >>= fun k => sHas eD k >>= fun r => pure (if neg then !r else r)) := by
  obtain ⟨t, h1, h2⟩ := ha
  have key : ∀ (tt : TE), (∀ (σ : L2.St) (H : Hp) (Q : VK), t σ H (fun v H1 => tVar i σ H1 fun w H2 => ∃ p o, w = .ref p ∧ DGet H2 p v o ∧ Q (.bl (if neg then !o.isSome else o.isSome)) H2) → tt σ H Q) → EvM c.K tt ρ D.bl (mk >>= fun k => sHas eD k >>= fun r => pure (if neg then !r else r)) := fun tt htt aS B s F H σ R Q q => by
    refine htt σ H Q (h2 aS B s F H σ R _ (q.bind.imp fun k s1 q1 v F1 H1 f1 hs1 r1 => ?_))
    obtain ⟨p, e1, e2, _, _⟩ := R.srcK h0
    refine ⟨_, e1, ?_⟩
    obtain ⟨l, rfl, q3⟩ := q1.bind.sHas
    obtain ⟨hF, hX⟩ := hs1.at' p e2
    obtain ⟨p', e3, _, _, _, g⟩ := O.rd.rd f1.fh (hX.brep hF (O.ds l))
    cases e3
    obtain ⟨g1, g2⟩ := g v k (.of r1)
    cases hk : getL l k with
    | none =>
      refine ⟨p, none, rfl, g2 hk, ?_⟩
      rw [hk] at q3
      exact q3 _ F1 H1 f1 hs1 (.bl _)
    | some y =>
      obtain ⟨z, hz, _⟩ := g1 y hk
      refine ⟨p, some z, rfl, hz, ?_⟩
      rw [hk] at q3
      exact q3 _ F1 H1 f1 hs1 (.bl _)
  cases neg with
  | false =>
    subst hop
    exact ⟨tDIn t (tVar i), fun X I => pc_din (units1 I) (h1 X I) (pe_var (i := i) (by rw [I.N]; exact hN) (by rw [I.sc]; exact hv) hd hcd), key _ fun σ H Q q => q⟩
  | true =>
    subst hop
    exact ⟨tDNotIn t (tVar i), fun X I => pc_dnotin (units1 I) (h1 X I) (pe_var (i := i) (by rw [I.N]; exact hN) (by rw [I.sc]; exact hv) hd hcd), key _ fun σ H Q q => q⟩
theorem dt_snot [DecidableEq κ] {eD : List (κ × β) → D} (i : Nat) {mk : M κ} (O : Dsc ek eb eD) (hN : c.N[i]? = some x) (hv : Vis c.sc x) (h0 : ρ[i]? = some .sr) (ha : DM c a ρ ek mk)
    (hd : (x == ("__debug__" : Str)) = false := by decide) (hcd : (x == ("__classdict__" : Str)) = false := by decide) (hm : behindInMarks .NotIn (.Name x p2) = false := by rfl) : DTM c (.Compare a [.NotIn] [.Name x p2] pos) ρ (mk >>= fun k => sHas eD k >>= fun r => pure (!r)) := dt_pc (dm_shasG i (neg := true) rfl O hN hv h0 ha hd hcd) hm
/-- x[k] = e, x the source -/
theorem ds_sput [DecidableEq κ] {eD : List (κ × β) → D} (i : Nat) {mv : M β} {mk : M κ} {n : M γ} (O : Dsc ek eb eD) (hN : c.N[i]? = some x) (hv : Vis c.sc x) (h0 : ρ[i]? = some .sr) (he : DM c e ρ eb mv) (hb : DM c b ρ ek mk) (hr : DS c rest ρ out n)
    (hd : (x == ("__debug__" : Str)) = false := by decide) (hcd : (x == ("__classdict__" : Str)) = false := by decide) (hs : ∀ env, swapsWith e (some (.Subscript (.Name x p2) b p3)) pos.line env = pure false := by intro _; rfl) :
    DS c (.Assign [.Subscript (.Name x p2) b p3] e pos :: rest) ρ out (mv >>= fun v => mk >>= fun k => sPut eD k v >>= fun _ => n) := by
  obtain ⟨t, h1, h2⟩ := he
  obtain ⟨u, h3, h4⟩ := hb
  obtain ⟨w, h5, h6⟩ := hr
  refine ⟨tSeq (sDPut (tVar i) u t) w, fun X I => pss_cons (ps_dput (units1 I) (pe_var (i := i) (by rw [I.N]; exact hN) (by rw [I.sc]; exact hv) hd hcd) (h3 X I) (h1 X I) (hs _)) (h5 X I), fun aS B s F H σ R E q => h2 aS B s F H σ R _ (q.bind.imp fun v s1 q1 z F1 H1 f1 hs1 r1 => ?_)⟩
  have R1 := R.step f1 hs1
  obtain ⟨p, e1, e2, _, _⟩ := R1.srcK h0
  refine ⟨_, e1, h4 aS B s1 F1 H1 σ R1 _ (q1.bind.imp fun k s2 q2 y F2 H2 f2 hs2 r2 => ?_)⟩
  have R2 := R1.step f2 hs2
  obtain ⟨l, rfl, hz, q3⟩ := q2.bind.sPut
  obtain ⟨hF, hX⟩ := hs2.at' p e2
  obtain ⟨o, hp, hX2⟩ := O.put f2.fh hF hX r2 (r1.mono f2.ff) hz.2 hz.1
  refine ⟨p, _, rfl, hp, h6 aS B _ F2 _ σ (R2.step (s' := [eD (putL l k v)]) ⟨Ex.refl _, fun b o hb => ?_, fun b o hb hns hh _ => ⟨?_, .inl hb⟩, dm_upd⟩ ⟨tabs_upd hs2.tb (fun u e => by
    obtain ⟨o', h1, h2⟩ := hX.some
    rw [h1] at e
    cases e
    exact h2), hs2.nf, fun b hb => ?_⟩) E q3⟩
  · rw [upd_ne (ne_of_none hb hF)]
    exact f2.fh _ _ hb
  · rw [upd_ne (fun z => hns (by rw [e2, z]))]
    exact hh
  · have : b = p := by rw [e2] at hb; exact (Option.some.inj hb).symm
    subst this
    exact ⟨hF, hX2⟩
/-- the new dict: nothing is known -/
def newD (t : Bool) : D := if t then .dtt [] else .dct []
theorem srcx_new {p : Addr} (t : Bool) (h : H p = some (if t then .dT [] else .dK [])) : SrcX K F H p [newD t] := by
  cases t with
  | false => exact .inr (.inl ⟨[], [], rfl, h, Nat.zero_le _, rfl, .nil⟩)
  | true => exact .inr (.inr ⟨[], [], rfl, h, Nat.zero_le _, rfl, .nil⟩)
/-- x = {}, the source from here on -/
theorem ds_adoptK (i : Nat) (t : Bool) {n : M γ} (hN : c.N[i]? = some x) (hx : Loc c.sc x) (hf : FnL c x) (hr : DS c rest (ρ.set i .sr) out n) (h1 : noSr (ρ.set i .no)) (h2 : ∀ g, OcNo (out g)) (hs : ∀ env, swapsWith (.Dict [] [] p3) (some (.Name x p2)) pos.line env = pure false := by intro _; rfl) :
    DS c (.Assign [.Name x p2] (.Dict [] [] p3) pos :: rest) ρ out (withK (newD t) n) := by
  obtain ⟨tt, a1, a2⟩ : DW c (.Dict [] [] p3) ρ (fun _ : Unit => if t then Ow.dt [] else .dk []) (pure ()) := by
    cases t with
    | false => exact dw_newK
    | true => exact dw_newT
  obtain ⟨u, b1, b2⟩ := hr
  refine ⟨_, fun X I => pss_cons (ps_set I.nd (by rw [I.N]; exact hN) (loc_of I hx) (a1 X I) (hs _) (fnl_of I hf)) (b1 X I), fun aS B s F H σ R E q => a2 aS B s F H σ R _ ?_⟩
  obtain ⟨rfl, q2⟩ := q.withK
  show Okk ((pure () : M Unit) []) _
  intro p fp F1 H1 f1 hs1 hp r
  have r' : fp = [p] ∧ H1 p = some (if t then .dT [] else .dK []) := by
    cases t with
    | false =>
      obtain ⟨g1, kvs, g2, g3, g4, g5⟩ := r
      refine ⟨g1, g2.trans ?_⟩
      cases kvs with
      | nil => rfl
      | cons a l => cases g4
    | true =>
      obtain ⟨g1, kvs, g2, g3, g4, g5⟩ := r
      refine ⟨g1, g2.trans ?_⟩
      cases kvs with
      | nil => rfl
      | cons a l => cases g4
  obtain ⟨rfl, hH⟩ := r'
  obtain ⟨hpn, hF, _⟩ := hp p List.mem_cons_self
  have e0 : aS = none := by
    cases aS with
    | none => rfl
    | some a0 => exact absurd rfl (hs1.at' a0 rfl).2.ne
  subst e0
  have nb := R.stands hpn
  have hsp : SrcAt (some p) c.K [newD t] F1 H1 := ⟨hs1.tb, hs1.nf, fun b hb => by
    have : p = b := Option.some.inj hb
    subst this
    exact ⟨hF, srcx_new t hH⟩⟩
  have R2 : REnv (some p) c.K B [newD t] F1 H1 (σ.set i (some (.ref p))) (ρ.set i .sr) := by
    obtain ⟨φ, k1, k2, k3⟩ := R.sl
    have kf : ∀ j q, q ∈ φ j → ∃ o, H q = some o ∧ NT o ∧ H1 q = some o ∧ F1 q = none := fun j q hq => by
      obtain ⟨fr, o, ho, nt⟩ := k1 j q hq
      obtain ⟨h4, h5⟩ := f1.kp q o fr.nF (fun z => nomatch z) ho nt
      exact ⟨o, ho, nt, h4, h5⟩
    have R1 := R.step f1 hs1
    refine ⟨⟨R1.fr.ff, R1.fr.fh, fun a o h1 _ h3 => R1.fr.kq a o h1 (fun z => nomatch z) h3, R1.fr.dm⟩, R1.kn, hsp, by rw [List.length_set, List.length_set, R.len], φ, fun j q hq => ⟨⟨(k1 j q hq).1.nb, fun z => ?_, (kf j q hq).choose_spec.2.2.2⟩, _, (kf j q hq).choose_spec.2.2.1, (kf j q hq).choose_spec.2.1⟩, k2, fun j x y e1 e2 => ?_⟩
    · obtain ⟨o, ho, _⟩ := kf j q hq
      have : p = q := Option.some.inj z
      rw [← this, hpn] at ho
      cases ho
    · rcases set_at e1 with ⟨e, rfl, _⟩ | ⟨e, e1⟩
      · rcases set_at e2 with ⟨_, rfl, _⟩ | ⟨e', _⟩
        · exact ⟨p, rfl, rfl⟩
        · exact absurd e e'
      · rcases set_at e2 with ⟨e', _⟩ | ⟨_, e2⟩
        · exact absurd e' e
        · refine ((k3 j x y e1 e2).loc (fun q hq => ?_) f1.ff).src fun z => h1 j (by rw [List.getElem?_set, if_neg e, e2, z])
          obtain ⟨o, ho, _, h5, _⟩ := kf j q hq
          rw [ho, h5]
  refine b2 (some p) B [newD t] F1 H1 _ R2 E (q2.imp fun g s2 q3 => ?_)
  have hno := h2 g
  cases hg : out g with
  | nx ρ' =>
    rw [hg] at q3 hno
    exact fun σ' F' H' R' => q3 σ' F' H' (R'.leave nb hno rfl)
  | bk ρ' =>
    rw [hg] at q3 hno
    exact fun σ' F' H' R' => q3 σ' F' H' (R'.leave nb hno rfl)
  | rt d =>
    rw [hg] at q3
    exact fun v F' H' f' hs' r' => q3 v F' H' (f'.leave nb) ⟨hs'.tb, hs'.nf, fun a z => nomatch z⟩ r'
  | ro l =>
    rw [hg] at q3
    exact fun p2 vs F' H' f' hs' hb hns => q3 p2 vs F' H' (f'.leave nb) ⟨hs'.tb, hs'.nf, fun a z => nomatch z⟩ hb (fun z => nomatch z)
  | xr W A ρ' =>
    rw [hg] at q3 hno
    exact fun cls d σ' F' H' R' hA => q3 cls d σ' F' H' (R'.leave nb hno rfl) hA
  | rw o =>
    rw [hg] at q3
    exact fun p2 fp F' H' f' hs' hb r => q3 p2 fp F' H' (f'.leave nb) ⟨hs'.tb, hs'.nf, fun a z => nomatch z⟩ hb r
end
end Dl

/-! Dl, part AK: calls apart from the source; while; break. -/
namespace Dl
open PySem PySem.Spec PyProof.Rows L2
open Evl (Ex)
section
variable {c : Ct} {e a b : Expr} {es : List Expr} {sts rest : List Stmt} {ρ ρ1 : List Sl} {d d1 d2 : D} {ds l : List D} {α β γ δ κ A R : Type} {enc : α → D} {eb : β → D} {ek : κ → D} {m : M α} {pos p2 p3 p4 p5 p6 : Pos} {x y : Str} {aS aT : Option Addr} {K : Kx} {F F' F2 F3 H H' H2 H3 : Hp} {s : List D} {σ : L2.St} {B : Bs} {out : γ → Oc}
/-- a step that touches only another source, new here -/
theorem Fr.apart (f : Fr aS F H F2 H2) (g : Fr aT F2 H2 F3 H3) (hT : ∀ p, aT = some p → H p = none) : Fr aS F H F3 H3 := ⟨f.ff.trans g.ff, g.fh, fun b o h1 h2 h3 h9 => by
  obtain ⟨k1, k2⟩ := f.kq b o h1 h2 h3 h9
  cases q : F2 b with
  | none => exact g.kq b o q (fun z => by rw [hT b z] at h3; cases h3) k1 h9
  | some u =>
    have e := f.fh b u q
    rw [k1] at e
    cases e
    refine ⟨g.fh b o (g.ff b o q), .inr ?_⟩
    rcases k2 with k2 | k2
    · rw [q] at k2; cases k2
    · exact k2, fun b h => f.dm b (g.dm b h)⟩
theorem SrcAt.apart {s9 : List D} (h : SrcAt aS K s F2 H2) (g : Fr aT F2 H2 F3 H3) (h9 : SrcAt aT K s9 F3 H3) (hT : ∀ p, aT = some p → aS ≠ some p) : SrcAt aS K s F3 H3 := ⟨h9.tb, h9.nf, fun a e => by
  obtain ⟨h1, h2⟩ := h.at' a e
  obtain ⟨o, ho, nt⟩ := h2.some
  obtain ⟨k1, k2⟩ := g.kq a o h1 (fun z => hT a z e) ho nt.nb
  refine ⟨?_, h2.loc (k1.trans ho.symm) g.ff⟩
  rcases k2 with k2 | ⟨vs, k2⟩
  · exact k2
  · exact absurd k2 (nt.tup vs)⟩
theorem paired_none {vs : List V} {as : List Ar} (h : Paired (ArOk aS K F) vs as) (hd : ∀ y ∈ as, ∃ d, y = .d d) : Paired (ArOk none K F) vs as := by
  induction h with
  | nil => exact .nil
  | cons r _ ih =>
    refine .cons ?_ (ih fun y hy => hd y (List.mem_cons_of_mem _ hy))
    obtain ⟨d, rfl⟩ := hd _ List.mem_cons_self
    exact r
/-- f(e, ..), which draws nothing -/
theorem dm_fnN [Cool c] {j : Nat} {encA : A → List Ar} {encB : R → D} {f : A → M R} {mk : ∀ {γ : Type}, (A → M γ) → M γ} (hA : ∀ a, ∀ y ∈ encA a, ∃ d, y = .d d) (hf : FnI c.g j x (spM c.K encA encB f)) (hk : j ≤ c.k) (hg : GI c x) (ha : DF c ρ (e :: es) encA mk) (hs : NoStar e := by intro _ _; rfl) (hpl : ∀ env, (backTo pos (starEach es env)).any (·.1) = false := by intro _; rfl) (hdb : (x == ("__debug__" : Str)) = false := by decide) :
    DM c (.Call (.Name x p2) (e :: es) [] pos) ρ encB (mk fun a => nd (f a)) := by
  obtain ⟨t, h1, h2⟩ := ha
  exact ⟨_, fun X I => pcall (g := c.g) I hf hk hg (h1 X I) hs hpl hdb, fun aS B s F H σ R Q q => h2 aS B s F H σ R _ _ _ _ q fun a s1 vs F1 H1 ok fr hs1 r => by
    show spM c.K encA encB f (vs ++ []) H1 Q E0
    rw [List.append_nil]
    exact ⟨none, [], F1, a, fr.fh, ⟨hs1.tb, hs1.nf, fun _ z => nomatch z⟩, paired_none r (hA a), ok.nd.imp fun b s2 k v F2 H2 f2 g2 r2 => k v F2 H2 (fr.apart f2 fun _ z => nomatch z) (hs1.apart f2 g2 fun _ z => nomatch z) r2⟩⟩
theorem dm_n3 [Cool c] {j : Nat} {α0 : Type} {e0 : α0 → D} {m0 : M α0} {a0 : Expr} {α1 : Type} {e1 : α1 → D} {m1 : M α1} {a1 : Expr} {α2 : Type} {e2 : α2 → D} {m2 : M α2} {a2 : Expr} {eB : R → D} {f : α0 → α1 → α2 → M R} (hf : FnI c.g j x (spM c.K (aC e0 (aC e1 (aC e2 aN))) eB (fun p => f p.1 p.2.1 p.2.2.1))) (hk : j ≤ c.k) (hg : GI c x) (h0 : DM c a0 ρ e0 m0) (h1 : DM c a1 ρ e1 m1) (h2 : DM c a2 ρ e2 m2) (s0 : NoStar a0 := by intro _ _; rfl) (s1 : NoStar a1 := by intro _ _; rfl) (s2 : NoStar a2 := by intro _ _; rfl) (hdb : (x == ("__debug__" : Str)) = false := by decide) :
    DM c (.Call (.Name x p2) [a0, a1, a2] [] pos) ρ eB (m0 >>= fun x0 => m1 >>= fun x1 => m2 >>= fun x2 => nd (f x0 x1 x2)) := dm_fnN (f := fun p => f p.1 p.2.1 p.2.2.1) (fun a y hy => by
  rcases List.mem_cons.mp hy with q | hy
  · exact ⟨_, q⟩
  rcases List.mem_cons.mp hy with q | hy
  · exact ⟨_, q⟩
  rcases List.mem_cons.mp hy with q | hy
  · exact ⟨_, q⟩
  exact absurd hy List.not_mem_nil) hf hk hg (df_cons h0 (df_cons h1 (df_cons h2 df_nil s2) s1) s0) s0 (by intro env; exact nostars2 s1 s2) hdb
theorem dm_z3 [Cool c] {j : Nat} (i : Nat) {y : Str} {α0 : Type} {e0 : α0 → D} {m0 : M α0} {a0 : Expr} {α1 : Type} {e1 : α1 → D} {m1 : M α1} {a1 : Expr} {α2 : Type} {e2 : α2 → D} {m2 : M α2} {a2 : Expr} {eB : R → D} {f : α0 → α1 → α2 → M R} (hN : c.N[i]? = some y) (hv : Vis c.sc y) (hρ : ρ[i]? = some .sr) (hf : FnI c.g j x (spM c.K (aC e0 (aC e1 (aC e2 (aR aN)))) eB (fun p => f p.1 p.2.1 p.2.2.1))) (hk : j ≤ c.k) (hg : GI c x) (h0 : DM c a0 ρ e0 m0) (h1 : DM c a1 ρ e1 m1) (h2 : DM c a2 ρ e2 m2) (s0 : NoStar a0 := by intro _ _; rfl) (s1 : NoStar a1 := by intro _ _; rfl) (s2 : NoStar a2 := by intro _ _; rfl) (hdb : (x == ("__debug__" : Str)) = false := by decide) (hd : (y == ("__debug__" : Str)) = false := by decide) (hcd : (y == ("__classdict__" : Str)) = false := by decide) :
    DM c (.Call (.Name x p2) [a0, a1, a2, .Name y p3] [] pos) ρ eB (m0 >>= fun x0 => m1 >>= fun x1 => m2 >>= fun x2 => f x0 x1 x2) := dm_fn (f := fun p => f p.1 p.2.1 p.2.2.1) hf hk hg (df_cons h0 (df_cons h1 (df_cons h2 (df_src i hN hv hρ df_nil hd hcd) s2) s1) s0) s0 (by intro env; exact nostars3 s1 s2 (by intro _ _; rfl)) hdb
/-! ### while -/
/-! ### break -/
end
end Dl

/-! Dl, part AL: targets of three and four; own things under another name, changed and forgotten; own dicts given back. -/
namespace Dl
open PySem PySem.Spec PyProof.Rows L2
open Evl (Ex)
section
variable {c : Ct} {e a b : Expr} {es : List Expr} {sts rest : List Stmt} {ρ ρ1 : List Sl} {d d1 d2 : D} {ds l : List D} {α β γ δ κ A R : Type} {enc : α → D} {eb : β → D} {ek : κ → D} {m : M α} {pos p2 p3 p4 p5 p6 : Pos} {x y : Str} {aS aT : Option Addr} {K : Kx} {F F' F2 F3 H H' H2 H3 : Hp} {s : List D} {σ : L2.St} {B : Bs} {out : γ → Oc}
/-! ### lists turned about; is True -/
/-! ### own things under another name -/
/-! ### own things changed and forgotten -/
/-! ### own dicts given back -/
end
end Dl

/-! Dl, part AM: walks over a dict's keys, d.update. -/
namespace Dl
open PySem PySem.Spec PyProof.Rows L2
open Evl (Ex)
/-! ### d.update(e) -/
section
variable {c : Ct} {e a b : Expr} {es : List Expr} {sts rest : List Stmt} {ρ ρ1 : List Sl} {d d1 d2 : D} {ds l : List D} {α β γ δ κ χ A R : Type} [DecidableEq κ] {enc : α → D} {eb : β → D} {ek : κ → D} {kk : κ → Key} {kt : κ → List Key} {m : M α} {pos p2 p3 p4 p5 p6 : Pos} {x y : Str} {aS aT : Option Addr} {K : Kx} {F F' F2 F3 H H' H2 H3 : Hp} {s : List D} {σ : L2.St} {B : Bs} {out : γ → Oc}
/-! ### walks over a known dict -/
end
end Dl

/-! Dl, part AN: sorted(xs, key=lambda c: (len(c), c)), the items tuples of ints. -/
namespace Dl
open PySem PySem.Spec PyProof.Rows L2
open PySem.Calls PySem.W
open Evl (Ex)
/-! ### a lambda is made -/
section
variable {X : Cx} {pins : List (Addr × Obj)} {σ : L2.St} {H : Hp} {s : Shared}
end
/-! ### its call: the length, and the tuple -/
/-! ### sorted by it -/
section
variable {c : Ct} {a : Expr} {ρ : List Sl} {pos p2 kp lp : Pos} {aS : Option Addr} {K : Kx} {F H : Hp}
end
end Dl

/-! Dl, part AO: defs that hold a lambda; a law's end with their tables. -/
namespace Dl
open PySem PySem.Spec PyProof.Rows L2
open Evl (Ex)
abbrev lamQ (qual : Str) : Str := qual ++ ".<locals>." ++ "<lambda>"
abbrev cxL (g : Gx) (N : List Str) (sc : Scope) (k : Nat) (cc P : Addr) (qual : Str) : Ct := ⟨g, N, sc, fun _ => true, k, some (cc, P, lamQ qual), false, none, true, fun _ _ _ _ => False⟩
instance {g : Gx} {N : List Str} {sc : Scope} {k : Nat} {cc P : Addr} {qual : Str} : Cool (cxL g N sc k cc P qual) := ⟨rfl⟩
section
variable {A R : Type} {x : Str}
end
end Dl

/-! Dl, part AP: compares of optional data, as one row each. -/
namespace Dl
open PySem PySem.Spec PyProof.Rows L2
open Evl (Ex)
section
variable {α : Type} [DecidableEq α]
variable {c : Ct} {a b : Expr} {ρ : List Sl} {enc : α → D} {k : Nat} {mx my : M α} {pos : Pos}
end
/-! tuples of which it is not known whether their object is known (a slice that may be the whole) -/
section
variable {c : Ct} {a b : Expr} {ρ : List Sl} {α : Type} {enc : α → D} {k : Nat} {pos p2 : Pos}
variable [DecidableEq α] {mx : M α} {ms : M (Bool × List α)}
end
end Dl

/-! Dl, part AQ: compares and membership of things of which nothing is known. -/
namespace Dl
open PySem PySem.Spec PyProof.Rows L2
open Evl (Ex)
/-- the items of any list or tuple -/
def itemsD : D → Option (List D)
  | .tup l => some l
  | .tpd l => some l
  | .lst l => some l
  | _ => none
def inD (neg : Bool) (x sq : D) : M Bool := match itemsD sq with
  | some l => if (SeqAt.shaped (py x) && SeqAt.shaped (.list (pys l))) = true then pure (if neg then !((pys l).any fun z => PyData.eqv z (py x)) else (pys l).any fun z => PyData.eqv z (py x)) else stuck
  | none => stuck
section
variable {c : Ct} {a b : Expr} {ρ : List Sl} {pos : Pos} {K : Kx} {mx my : M D}
theorem inD_op {neg : Bool} {x y : D} {s : List D} {P : Bool → List D → Prop} (h : Okk (inD neg x y s) P) : ∃ g, P g s ∧ Op2 K (rInS K.K neg) x y (.bl g) := by
  unfold inD at h
  cases e : itemsD y with
  | none => rw [e] at h; cases h
  | some l =>
    rw [e] at h
    simp only at h
    split at h
    · rename_i q
      rw [Bool.and_eq_true] at q
      refine ⟨_, h, fun aS F H v w ex r1 r2 Q q1 => ?_⟩
      have sl := SeqAt.canLay_of_shaped q.2
      refine ⟨_, pys l, r1.dp ex (SeqAt.canLay_of_shaped q.1), ?_, q.1, q.2, rep_bl ex q1⟩
      rw [PyData.canLay0] at sl
      cases y <;> first | cases e | skip
      · left
        have := r2.dp ex (by rw [py, PyData.canLay0]; exact sl)
        rw [py] at this
        exact this
      · right
        have := r2.dp ex (by rw [py, PyData.canLay0]; exact sl)
        rw [py] at this
        exact this
      · right
        have := r2.dp ex (by rw [py, PyData.canLay0]; exact sl)
        rw [py] at this
        exact this
    · cases h
theorem dm_inA (ha : DN c a ρ eId mx) (hb : DN c b ρ eId my) (hm : behindInMarks .In b = false := by rfl) : DM c (.Compare a [.In] [b] pos) ρ D.bl (mx >>= fun x => my >>= fun y => inD false x y) := dm_cmp (fun X I => op_inI I) (fun x y s P h => inD_op h) ha hb hm
end
end Dl

/-! Dl, part AR: triples compared, read. -/
namespace Dl
open PySem PySem.Spec PyProof.Rows L2
open Evl (Ex)
open PySem.Calls PySem.W
section
variable {α β γ : Type} [DecidableEq α] [DecidableEq β] [DecidableEq γ] {e : α → D} {f : β → D} {g : γ → D} {k m n : Nat}
end
end Dl

/-! Dl, part AS: x += e, the rest for whatever x is then. -/
namespace Dl
open PySem PySem.Spec PyProof.Rows L2
open Evl (Ex)
section
variable {c : Ct} {e : Expr} {rest : List Stmt} {ρ : List Sl} {γ : Type} {out : γ → Oc} {x : Str} {pos p2 : Pos}
end
end Dl

/-! Dl, part AT: index in a tuple of any data; tuples written out, their object known. -/
namespace Dl
open PySem PySem.Spec PyProof.Rows L2
open Evl (Ex)
section
variable {X : Cx}
variable {o e : Expr} {es : List Expr} {to : TE} {t : TA} {apos cpos : Pos}
end
section
variable {c : Ct} {a b : Expr} {es : List Expr} {ρ : List Sl} {α : Type} {enc : α → D} {k : Nat} {pos p3 p4 : Pos}
end
end Dl

/-! Dl, part AU: ranges with a step gone through; tuple(range(n)). -/
namespace Dl
open PySem PySem.Spec PyProof.Rows L2
open Evl (Ex)
section
variable {c : Ct} {ρ : List Sl}
end
end Dl

/-! Dl, part AV: membership of a range. -/
namespace Dl
open PySem PySem.Spec PyProof.Rows L2
open Evl (Ex)
section
variable {c : Ct} {ρ : List Sl} {a b : Expr} {p2 p3 pos : Pos} {mi mn : M Int} {op : CmpOp} {neg : Bool}
end
end Dl

/-! Dl, part AW: a test during which a thing of one's own is locked. -/
namespace Dl
open PySem PySem.Spec PyProof.Rows L2
open Evl (Ex)
def flatD : D → Bool
  | .non => true
  | .bl _ => true
  | .int _ => true
  | .str _ => true
  | _ => false
def lkM {α : Type} (m : M α) : M α := fun s => if s.all flatD = true then (match m s with
  | .ok a s' => if s'.all flatD = true then .ok a s' else .stuck
  | .stuck => .stuck) else .stuck
theorem Okk.lk {α : Type} {m : M α} {s : List D} {P : α → List D → Prop} (h : Okk (lkM m s) P) : Okk (m s) fun a s' => s'.all flatD = true ∧ P a s' := by
  unfold lkM at h
  split at h
  · cases e : m s with
    | stuck => rw [e] at h; exact h.elim
    | ok a s' =>
      rw [e] at h
      simp only at h
      split at h
      · rename_i q
        exact ⟨q, h⟩
      · exact h.elim
  · exact h.elim
theorem Wp.lk {α : Type} {S : List D → Prop} {m : M α} {Q : α → Prop} (hS : ∀ s, S s → s.all flatD = true) (h : Wp S m Q) : Wp S (lkM m) Q := fun s hs => by
  have q := h s hs
  unfold lkM
  rw [if_pos (hS s hs)]
  cases e : m s with
  | stuck => rw [e] at q; exact q.elim
  | ok a s' =>
    rw [e] at q
    simp only
    have q : S s' ∧ Q a := q
    rw [if_pos (hS s' q.1)]
    exact q
theorem Rep.flat {K : Kx} {F F2 : Hp} {v : V} {d : D} (h : flatD d = true) (r : Rep K F v d) : Rep K F2 v d := by
  cases r <;> first | (cases h; done) | constructor
theorem Reps.flat {K : Kx} {F F2 : Hp} : ∀ {vs : List V} {l : List D}, l.all flatD = true → Reps K F vs l → Reps K F2 vs l
  | _, _, _, .nil => .nil
  | _, _, h, .cons r rs => by
    rw [List.all_cons, Bool.and_eq_true] at h
    exact .cons (r.flat h.1) (Reps.flat h.2 rs)
end Dl

/-! Dl, part AX: what may raise. An error is told by the name of its class and its fields. -/
namespace Dl
open PySem PySem.Spec PyProof.Rows L2
open Evl (Ex)
structure Er where
  c : Str
  fs : List (Str × D)
/-- such an error in the air; its dict is known -/
def ErAt (g : Gx) (F H : Hp) (x : Er) (cls : Value) (d : Option Addr) : Prop :=
  ∃ C, g.mg x.c = some (.ref C) ∧ cls = .ref C ∧ ((x.fs = [] ∧ d = none) ∨ ∃ (dd : Addr) (vs : List (Str × V)), d = some dd ∧ F dd = some (.xd vs) ∧ vs.map (·.1) = x.fs.map (·.1) ∧ Reps g.K F (vs.map (·.2)) (x.fs.map (·.2)))
theorem ErAt.mono {g : Gx} {F H F' H' : Hp} {x : Er} {cls : Value} {d : Option Addr} (e : Ex F F') (h : ErAt g F H x cls d) : ErAt g F' H' x cls d := by
  obtain ⟨C, h1, h2, h3 | ⟨dd, vs, h3, h4, h5, h6⟩⟩ := h
  · exact ⟨C, h1, h2, .inl h3⟩
  · exact ⟨C, h1, h2, .inr ⟨dd, vs, h3, e _ _ h4, h5, h6.mono e⟩⟩
/-- the outcomes of what may raise: ρe are the slots that are told where an error leaves -/
def outX {γ : Type} (g : Gx) (W : WX) (ρe : List Sl) (out : γ → Oc) : Er ⊕ γ → Oc
  | .inl x => .xr W (fun F H cls d => ErAt g F H x cls d) ρe
  | .inr a => out a
abbrev Ct.wx (c : Ct) (W : WX) : Ct := { c with W := W }
instance {c : Ct} {W : WX} [Cool c] : Cool (c.wx W) := ⟨Cool.h (c := c)⟩
section
variable {c : Ct} {e a b : Expr} {sts sts2 rest : List Stmt} {ρ ρe : List Sl} {α β γ μ : Type} {enc : α → D} {eb : β → D} {pos p2 : Pos} {x : Str} {out : γ → Oc}
theorem ErAt.fs {g : Gx} {F H : Hp} {x : Er} {cls : Value} {d : Option Addr} (h : ErAt g F H x cls d) : ErF g.K F d x.fs := fun dd q => by
  obtain ⟨C, _, _, ⟨_, e⟩ | ⟨dd', vs, e, h1, h2, h3⟩⟩ := h
  · rw [e] at q; cases q
  · rw [e] at q; cases q
    exact ⟨vs, h1, h2, h3⟩
end
end Dl

/-! Dl, part AY: defs that may raise; raise. -/
namespace Dl
open PySem PySem.Spec PyProof.Rows L2
open Evl (Ex)
/-- what a def that may raise gives -/
def spX {A B : Type} (g : Gx) (encA : A → List Ar) (encB : B → D) (f : A → M (Er ⊕ B)) : Sp := fun vs H Q E => ∃ (aS : Option Addr) (s : List D) (F : Hp) (a : A), Ex F H ∧ SrcAt aS g.K s F H ∧ Paired (ArOk aS g.K F) vs (encA a) ∧
  Okk (f a s) fun r s' => match r with
    | .inl x => ∀ cls d F' H', Fr aS F H F' H' → SrcAt aS g.K s' F' H' → ErAt g F' H' x cls d → E cls d H'
    | .inr b => ∀ v F' H', Fr aS F H F' H' → SrcAt aS g.K s' F' H' → Rep g.K F' v (encB b) → Q v H'
structure FnX (g : Gx) (k : Nat) (x : Str) (sp : Sp) : Prop where
  ex : ∃ (f : Addr) (fd : FuncData) (ps : List Str), FnOk g.P g.w g.K.K g.mg g.base (L2.CX g.P g.w) k f fd ps sp ∧ g.mg x = some (.ref f) ∧ PySem.W.keepIn g.K.K (.ref f) = true ∧ Binds g.K.K fd ps []
section
variable {c : Ct} {e : Expr} {es : List Expr} {ρ ρe : List Sl} {A R γ : Type} {pos p2 : Pos} {x : Str}
/-- where a def's body stands, if it may raise -/
theorem body_isX {g : Gx} {N : List Str} {qual : Str} {sc : Scope} {f : Addr} {cd : Value} {A : Around} {outer : List Env} {s : Shared} {H : Hp} {E : XK} {k : Nat} (nd : N.Nodup) (hr : Room k (A.deeper (envOfC qual sc s.heap.objs.size f cd))) :
    ((cxD g N sc k).wx fun cls d _ H => E cls d H).Is (cxOf (L2.CX g.P g.w) g.P g.w g.K.K g.mg g.base N qual sc f cd A outer s H E) :=
  ⟨rfl, rfl, rfl, rfl, rfl, rfl, rfl, rfl, fun _ => rfl, ⟨hr.dp, hr.un⟩, fun _ => hr.hd, nd, passes_of rfl, (fun _ _ _ z => nomatch z), (fun _ _ _ z => nomatch z), fun _ => ⟨rfl, rfl⟩, takes_of rfl rfl rfl rfl⟩
theorem FnX.val {g : Gx} {qual : Str} {st : Stmt} {f0 : Addr} {fd : FuncData} {N ps : List Str} {k : Nat} {encA : A → List Ar} {encB : R → D} {f : A → M (Er ⊕ R)} (ρ0 : A → List Sl) (h0 : ∀ a, startS N (encA a) = ρ0 a) (ρx : A → List Sl) (Fu : Fun g.K.K x qual st f0 fd) (gx : g.mg x = some (.ref f0)) (S : FnScope N ps (defScope st)) (bd : Binds g.K.K fd ps [])
    (hl : ∀ a, (encA a).length = ps.length) (body : ∀ W a, DS ((cxD g N (defScope st) k).wx W) (defBody st) (ρ0 a) (outX g W (ρx a) (outV encB)) (f a)) : FnX g (k + 1) x (spX g encA encB f) := by
  obtain ⟨oc, od, kV, doc, pm, an, cdv, ct, osl, rfl, lk, hcd⟩ := Fu.ex
  refine ⟨f0, _, ps, fn_of lk hcd S (fun vs H Q E h => ?_) fun A outer s H vs Q E hr h => ?_, gx, Fu.kp, bd⟩
  · obtain ⟨aS, s, F, a, _, _, r, _⟩ := h
    rw [Paired.length r]
    exact hl a
  · obtain ⟨aS, sD, F, a, e, hs, r, ok⟩ := h
    obtain ⟨t, h1, h2⟩ := body (fun cls d _ H => E cls d H) a
    rw [← h0] at h2
    refine ⟨t, h1 _ (body_isX S.nd hr), h2 aS ⟨F, H, F, none⟩ sD F H _ (start_env e hs r) _ (ok.imp fun b s' k => ?_)⟩
    cases b with
    | inl y => exact fun cls d σ' F' H' R' hy => k cls d F' H' R'.fr R'.src hy
    | inr b => exact fun v F' H' f' hs' r' => k v F' H' f' hs' r'
/-- .. that falls off its end -/
theorem FnX.proc {g : Gx} {qual : Str} {st : Stmt} {f0 : Addr} {fd : FuncData} {N ps : List Str} {k : Nat} {encA : A → List Ar} {f : A → M (Er ⊕ Unit)} (ρ0 : A → List Sl) (h0 : ∀ a, startS N (encA a) = ρ0 a) (ρx ρn : A → List Sl) (Fu : Fun g.K.K x qual st f0 fd) (gx : g.mg x = some (.ref f0)) (S : FnScope N ps (defScope st)) (bd : Binds g.K.K fd ps [])
    (hl : ∀ a, (encA a).length = ps.length) (body : ∀ W a, DS ((cxD g N (defScope st) k).wx W) (defBody st) (ρ0 a) (outX g W (ρx a) (fun _ => .nx (ρn a))) (f a)) : FnX g (k + 1) x (spX g encA eU f) := by
  obtain ⟨oc, od, kV, doc, pm, an, cdv, ct, osl, rfl, lk, hcd⟩ := Fu.ex
  refine ⟨f0, _, ps, fn_of lk hcd S (fun vs H Q E h => ?_) fun A outer s H vs Q E hr h => ?_, gx, Fu.kp, bd⟩
  · obtain ⟨aS, s, F, a, _, _, r, _⟩ := h
    rw [Paired.length r]
    exact hl a
  · obtain ⟨aS, sD, F, a, e, hs, r, ok⟩ := h
    obtain ⟨t, h1, h2⟩ := body (fun cls d _ H => E cls d H) a
    rw [← h0] at h2
    refine ⟨t, h1 _ (body_isX S.nd hr), h2 aS ⟨F, H, F, none⟩ sD F H _ (start_env e hs r) _ (ok.imp fun b s' k => ?_)⟩
    cases b with
    | inl y => exact fun cls d σ' F' H' R' hy => k cls d F' H' R'.fr R'.src hy
    | inr b => exact fun σ' F' H' R' => k .non F' H' R'.fr R'.src .non
end
end Dl

/-! Dl, part AZ: errors made, without fields and with one or two. -/
namespace Dl
open PySem PySem.Spec PyProof.Rows L2
open Evl (Ex)
section
variable {X : Cx} {C : Addr} {bmB : List Value} {B newId initId : String} {x : Str} {p pos : Pos}
end
section
variable {c : Ct} {ρ : List Sl} {x : Str} {p pos : Pos}
end
end Dl

/-! Dl, part BA: in the suite of an except clause: isinstance(e, C). -/
namespace Dl
open PySem PySem.Spec PyProof.Rows L2
open Evl (Ex)
section
variable {c : Ct} {ρ : List Sl} {x y : Str} {p1 p2 p3 pos : Pos}
theorem REnv.er {aS : Option Addr} {K : Kx} {B : Bs} {s : List D} {F H : Hp} {σ : L2.St} {i : Nat} {a : Addr} {d : Option Addr} {fs : List (Str × Dl.D)} (R : REnv aS K B s F H σ ρ) (h : ρ[i]? = some (.er a d fs)) : σ[i]? = some (some (.ref a)) ∧ ErF K F d fs := by
  obtain ⟨fp, x, e, ⟨rfl, r⟩, _⟩ := R.slot h
  exact ⟨e, r⟩
theorem ErF.xd {K : Kx} {F H : Hp} {d : Option Addr} {fs : List (Str × Dl.D)} (e : Ex F H) (h : ErF K F d fs) : ∀ dd, d = some dd → ∃ vs, H dd = some (.xd vs) := fun dd q => by
  obtain ⟨vs, h1, _⟩ := h dd q
  exact ⟨vs, e _ _ h1⟩
end
end Dl

/-! Dl, part BB: the contexts of a try's body and of its suites; try. -/
namespace Dl
open PySem PySem.Spec PyProof.Rows L2
open Evl (Ex)
section
variable {c : Ct} {X : Cx}
theorem Ct.Is.tr (I : c.Is X) {W : WX} {pn : List (Addr × Obj)} {xe : Value → Shared → Prop} (tk : Takes (X.tr pn xe) W) (q : PassesOwn (model X.prog X.w) X.A X.env xe) (hx : c.ex = none) : (c.wx W).Is (X.tr pn xe) :=
  ⟨I.P, I.w, I.K, I.mg, I.base, I.N, I.sc, I.fn, I.calm, I.room, I.hd, I.nd, q, I.lam, (fun a cls d z => by rw [show (c.wx W).ex = none from hx] at z; cases z), I.tp, tk⟩
end
def toS {δ β γ : Type} (k : δ → M γ) (j : β → γ) : δ ⊕ β → M γ
  | .inl z => k z
  | .inr y => pure (j y)
section
variable {c : Ct} {body suite rest : List Stmt} {b0 : Stmt} {ρ ρe : List Sl} {β γ δ : Type} {x n : Str} {np pos pos' : Pos} {out : γ → Oc}
end
end Dl

/-! Dl, part BC: calls that may raise, by the number of arguments; pairs; a suite's looks at its error. -/
namespace Dl
open PySem PySem.Spec PyProof.Rows L2
open Evl (Ex)
section
variable {c : Ct} {ρ ρe : List Sl} {R γ α β δ : Type} {pos p1 p2 p3 : Pos} {x y : Str} {e a b : Expr} {enc : α → D}
end
end Dl

/-! Dl, part BD: errors with one field or two, made. -/
namespace Dl
open PySem PySem.Spec PyProof.Rows L2
open Evl (Ex)
section
variable {g : Gx} {qual : Str} {st : Stmt} {f0 : Addr} {fd : FuncData} {s0 p1 p2 f f2 : Str} {q1 q2 q3 q4 q5 q6 q7 q8 : Pos}
end
section
variable {c : Ct} {ρ : List Sl} {x f f2 : Str} {p pos : Pos} {C : Addr} {α0 α1 : Type} {e0 : α0 → D} {e1 : α1 → D} {m0 : M α0} {m1 : M α1} {a0 a1 : Expr}
end
end Dl

/-! Dl, part BE: dict comprehensions, the store told by a predicate; with tuples as keys. -/
namespace Dl
open PySem PySem.Spec PyProof.Rows L2
open Evl (Ex)
section
variable {X : Cx} {kx vx tg iter : Expr} {ifs : List Expr} {scope : Scope} {own : List (Str × Nat)} {pos : Pos} {wi : TI} {g : TG} {tt : TT} {tk tv : TE} {o0 : HO} {St : Addr → V → V → Hp → (Hp → Prop) → Prop}
end
end Dl

/-! Dl, part BF: {k: v for .. in ..}, tuples as keys. -/
namespace Dl
open PySem PySem.Spec PyProof.Rows L2
open Evl (Ex)
section
variable {c : Ct} {e a b f elt tg kx vx : Expr} {es ifs : List Expr} {sts rest : List Stmt} {ρ ρ1 : List Sl} {d d1 d2 : D} {α β γ κ χ : Type} [DecidableEq κ] {ek : κ → D} {enc : α → D} {eb : β → D} {m : M α} {pos p2 p3 p4 p5 p6 : Pos} {x y : Str} {aS : Option Addr} {K : Kx} {F F' H H' : Hp} {s : List D} {σ : L2.St} {B : Bs} {out : γ → Oc} {o : α → Ow} {scope : Scope}
end
end Dl

/-! Dl, part BG: a told dict changed and looked at no more; index of lists. -/
namespace Dl
open PySem PySem.Spec PyProof.Rows L2
open Evl (Ex)
section
variable {c : Ct} {b2 a b : Expr} {rest : List Stmt} {ρ : List Sl} {β γ κ α : Type} {ek : κ → D} {kt : κ → List Key} {enc : α → D} {k : Nat} {x : Str} {pos p2 p3 p4 p5 p6 p7 p8 p9 p10 p11 : Pos} {out : γ → Oc}
end
end Dl

/-! Dl, part BH: a new list changed and dropped. -/
namespace Dl
open PySem PySem.Spec PyProof.Rows L2
open Evl (Ex)
section
variable {c : Ct} {a b : Expr} {rest : List Stmt} {ρ : List Sl} {α β γ : Type} {enc : α → D} {eb : β → List D} {pos p3 p4 : Pos} {out : γ → Oc}
end
end Dl

/-! Dl, part BI: list(d), d a dict. -/
namespace Dl
open PySem PySem.Spec PyProof.Rows L2
open Evl (Ex)
section
variable {c : Ct} {a : Expr} {ρ : List Sl} {β κ : Type} {ek : κ → D} {eb : β → D} {kk : κ → Key} {kt : κ → List Key} {pos p2 : Pos}
end
end Dl

/-! Dl, part BJ: a test during which a thing of one's own is locked; the source has no part in it. -/
namespace Dl
open PySem PySem.Spec PyProof.Rows L2
open Evl (Ex)
section
variable {c : Ct} {e : Expr} {ρ : List Sl} {d : D} {aS : Option Addr} {K : Kx} {F F' H H' : Hp} {s s' : List D} {σ : L2.St} {B : Bs}
end
end Dl

/-! Dl, part BK: walks over the values and the pairs of a known dict. -/
namespace Dl
open PySem PySem.Spec PyProof.Rows L2
open Evl (Ex)
section
variable {c : Ct} {a : Expr} {es : List Expr} {ρ : List Sl} {κ β : Type} {ek : κ → D} {eb : β → D} {kk : κ → Key} {m : Nat} {pos p3 p4 p5 : Pos}
end
end Dl

/-! Dl, part BL: x.extend(a tuple), tuple(range(a, b)). -/
namespace Dl
open PySem PySem.Spec PyProof.Rows L2
open Evl (Ex)
section
variable {c : Ct} {e : Expr} {rest : List Stmt} {ρ : List Sl} {α γ : Type} {enc : α → D} {out : γ → Oc} {pos p2 p3 p4 : Pos} {x : Str}
end
end Dl

/-! Dl, part BM: zip of any two feeders (a list and a tuple). -/
namespace Dl
open PySem PySem.Spec PyProof.Rows L2
open Evl (Ex)
/-- what stands at it feeds the items xs of what stands at l; J tells how far it is -/
structure Feed (it l : Addr) (xs : Array Value) (J : Heap → Nat → Prop) : Prop where
  up : ∀ {h h' : Heap} {k : Nat}, J h k → (∀ c o, (c = it ∨ c = l) → h.get? c = some o → h'.get? c = some o) → J h' k
  lt : ∀ {h : Heap} {k : Nat}, J h k → ∃ o, h.get? it = some o ∧ ∀ v n, o.data ≠ .seq v n
  item : ∀ {prog : Program} {w : World} {A : Around} {E : Value → Shared → Prop} {s : Shared} {k : Nat} {x : Value} {Q : Value → Shared → Prop}, J s.heap k → xs[k]? = some x → (∀ h', J h' (k + 1) → Heap.SameBut it s.heap h' → Q x { s with heap := h' }) → wpAny (model prog w) A (Builtin.SmallTypes.nextOf (.ref it)) Q E s
  done : ∀ {prog : Program} {w : World} {A : Around} {E : Value → Shared → Prop} {s : Shared} {k : Nat} {Q : Value → Shared → Prop}, A.handled = none → J s.heap k → xs[k]? = none → (∀ h' e, Heap.ExtBut it s.heap h' → (∃ o, h'.get? e = some o ∧ o.cls = .type "StopIteration") → E (.ref e) { s with heap := h' }) → wpAny (model prog w) A (Builtin.SmallTypes.nextOf (.ref it)) Q E s
theorem Feed.far {it l : Addr} {xs : Array Value} {J : Heap → Nat → Prop} (f : Feed it l xs J) {h h' : Heap} {k : Nat} {b : Addr} (j : J h k) (e : Heap.ExtBut b h h') (h1 : it ≠ b) (h2 : l ≠ b) : J h' k := f.up j fun c o hc q => by
  rcases hc with rfl | rfl
  · exact e _ _ h1 q
  · exact e _ _ h2 q
section
variable {prog : Program} {w : World} {A : Around} {E : Value → Shared → Prop} {s : Shared} {z TI TO i1 i2 l1 l2 : Addr} {k1 k2 : Nat} {xs ys : Array Value} {x y a b : Value} {J1 J2 : Heap → Nat → Prop}
end
end Dl

/-! Dl, part BN: walks over zip of a list and a tuple. -/
namespace Dl
open PySem PySem.Spec PyProof.Rows L2
open Evl (Ex)
section
variable {prog : Program} {w : World} {A : Around} {E : Value → Shared → Prop} {s : Shared} {z TI TO i1 i2 l1 l2 : Addr} {k1 k2 : Nat} {xs ys : Array Value} {x y a b : Value} {J1 J2 : Heap → Nat → Prop}
end
section
variable {prog : Program} {w : World} {A : Around} {E : Value → Shared → Prop} {s : Shared}
end
end Dl

/-! Dl, part BO: zip of a list and a tuple, as an iterable. -/
namespace Dl
open PySem PySem.Spec PyProof.Rows L2
open Evl (Ex)
section
variable {c : Ct} {a b : Expr} {es : List Expr} {ρ : List Sl} {α β : Type} {enc : α → D} {eb : β → D} {kk : Nat} {pos p2 p5 : Pos}
end
end Dl

/-! Dl, part BP: list of a tuple whose object is known; + of such tuples. -/
namespace Dl
open PySem PySem.Spec PyProof.Rows L2
open Evl (Ex)
/-- t + u: what is new is known -/
def rCatN (K : PySem.W.Frag) : R2 := fun x y H Q => ∃ a b xs ys, x = .ref a ∧ y = .ref b ∧ SqT K H a xs ∧ SqT K H b ys ∧ xs.length + ys.length ≤ sizeLine ∧
  (xs = [] → Q (.ref b) H) ∧ (xs ≠ [] → ys = [] → Q (.ref a) H) ∧ (xs ≠ [] → ys ≠ [] → ∀ (p : Addr) (o : Obj), H p = none → o.dict = none → Q (.ref p) (upd H p (.frz o (.tup (xs ++ ys)))))
theorem op_catN {X : Cx} : OpR X (binaryOp .Add) (rCatN X.K) := by
  intro pins s σ H x y v u Q I rx ry h
  obtain ⟨a, b, xs, ys, rfl, rfl, ha, hb, hz, q0, q1, q2⟩ := h
  cases rx
  cases ry
  obtain ⟨its, r1, p1, _⟩ := I.tuple ha
  obtain ⟨its2, r2, p2, _⟩ := I.tuple hb
  by_cases hx : xs = []
  · subst hx
    cases r1
    exact cat_tup0 p1 p2 ⟨.ref b, H, I, rfl, q0 rfl⟩
  · refine HT.cat_tup p1 p2 (fun z => hx (r1.nil_iff.mp z)) (fun z => ⟨.ref a, H, I, rfl, q1 hx (r2.nil_iff.mp z)⟩) (fun z => ?_) (by rw [← r1.length, ← r2.length]; exact hz)
    refine ⟨.ref s.heap.objs.size, upd H s.heap.objs.size (.frz { cls := .type "tuple", data := .seq (its ++ its2).toArray } (.tup (xs ++ ys))), I.laid (t' := s.toks) (fun b ob q => Heap.get?_push_of_some _ q) (Nat.le_refl _) ?_, rfl, q2 hx (fun w => z (r2.nil_iff.mpr w)) _ _ (I.hok.fresh (Nat.le_refl _)) rfl⟩
    exact ⟨Heap.get?_push_size _ (by first | rfl | simp), by rw [List.length_append]; exact hz, _, r1.append r2, IsTup.new _ _⟩
section
variable {c : Ct} {α : Type} {enc : α → D} {ρ : List Sl} {a b : Expr} {p2 pos : Pos}
theorem dm_catN {ma mb : M (List α)} (ha : DM c a ρ (eN enc) ma) (hb : DM c b ρ (eN enc) mb) : DM c (.BinOp a .Add b pos) ρ (eN enc) (ma >>= fun x => mb >>= fun y => chk (x.length + y.length) >>= fun _ => pure (x ++ y)) := by
  obtain ⟨t, a1, a2⟩ := ha
  obtain ⟨u, b1, b2⟩ := hb
  refine ⟨tOp (rCatN c.K.K) t u, fun X I => by rw [← I.K]; exact pe_op op_catN (a1 X I) (b1 X I), fun aS B s F H σ R Q q => a2 aS B s F H σ R _ (q.bind.imp fun xs s1 q1 v F1 H1 f1 hs1 r1 => b2 aS B s1 F1 H1 σ (R.step f1 hs1) _ (q1.bind.imp fun ys s2 q2 w F2 H2 f2 hs2 r2 => ?_))⟩
  obtain ⟨hc, q3⟩ := q2.chk
  have q4 : ∀ v F' H', Fr aS F H F' H' → SrcAt aS c.K s2 F' H' → Rep c.K F' v (.tpd ((xs ++ ys).map enc)) → Q v H' := q3
  rw [List.map_append] at q4
  obtain ⟨p, o1, vs, rfl, hp, hd, hz, rs⟩ := (r1.mono f2.ff).of_tpd
  obtain ⟨p', o2, ws, rfl, hp', hd', hz', rs'⟩ := r2.of_tpd
  have hl : vs.length + ws.length ≤ LIM := by rw [rs.length, rs'.length, List.length_map, List.length_map]; exact hc
  have hl2 : (xs.map enc ++ ys.map enc).length ≤ LIM := by rw [List.length_append, List.length_map, List.length_map]; exact hc
  have fall := f1.trans f2
  refine ⟨p, p', vs, ws, rfl, rfl, .inl (.inr ⟨o1, f2.fh _ _ hp⟩), .inl (.inr ⟨o2, f2.fh _ _ hp'⟩), lim_line hl, fun h0 => ?_, fun _ h0 => ?_, fun _ _ n o hn ho => ?_⟩
  · have hx : xs.map enc = [] := List.eq_nil_of_length_eq_zero (by rw [← rs.length, h0]; rfl)
    rw [hx, List.nil_append] at q4
    exact q4 _ F2 H2 fall hs2 r2
  · have hy : ys.map enc = [] := List.eq_nil_of_length_eq_zero (by rw [← rs'.length, h0]; rfl)
    rw [hy, List.append_nil] at q4
    exact q4 _ F2 H2 fall hs2 (r1.mono f2.ff)
  · exact q4 _ (upd F2 n _) _ (fall.trans (Fp.new f2.fh hn).fr) (hs2.stepP (Fp.new f2.fh hn)) (Rep.mk_tpd upd_same ho hl2 ((rs.append rs').mono (Ex.new (Ex.none_of f2.fh hn))))
end
end Dl

/-! Dl, part BQ: dict(d), list(range(a, b)). -/
namespace Dl
open PySem PySem.Spec PyProof.Rows L2
open Evl (Ex)
section
variable {c : Ct} {ρ : List Sl} {a : Expr} {p2 pos : Pos} {β κ : Type} [DecidableEq κ] {ek : κ → D} {kk : κ → Key} {eb : β → D}
end
end Dl

/-! Dl, part BR: slices of known tuples that are known. -/
namespace Dl
open PySem PySem.Spec PyProof.Rows L2 HT
open Evl (Ex)
section
variable {c : Ct} {α : Type} {enc : α → D} {ρ : List Sl} {a b : Expr} {p2 p3 p4 pos : Pos}
end
end Dl

/-! Dl, part BS: a, b = x, y where one of the names is a cell. -/
namespace Dl
open PySem PySem.Spec PyProof.Rows L2
section
variable {c : Ct} {e : Expr} {rest : List Stmt} {ρ : List Sl} {α γ : Type} {enc : α → D} {m : M α} {pos : Pos} {out : γ → Oc}
end
section
variable {c : Ct} {a : Expr} {ρ : List Sl} {α : Type} {enc : α → D} {k : Nat} {pos p2 : Pos} [DecidableEq α] {lt : α → α → Bool} {ok : α → Bool}
end
end Dl

/-! Dl, part BT: list(d.values()), d a dict with tuple keys. -/
namespace Dl
open PySem PySem.Spec PyProof.Rows L2
open Evl (Ex)
section
variable {X : Cx} {e : Expr} {te : TE} {p apos cpos pos : Pos}
end
section
variable {c : Ct} {ρ : List Sl} {a : Expr} {p2 apos cpos pos : Pos} {β κ : Type} [DecidableEq κ] {ek : κ → D} {kt : κ → List Key} {eb : β → D}
end
end Dl

/-! Dl, part BU: == and != of objects by an own __eq__. -/
namespace Dl
open PySem PySem.Spec PyProof.Rows L2
open Evl (Ex)
section
open PySem.W Builtin
variable {prog : Program} {w : World} {A : Around} {E : Value → Shared → Prop} {s : Shared} {K : PySem.W.Frag} {x C f L : Addr} {h₀ : Heap} {m : Str → Option Value} {ox : Obj} {od : Option Obj} {b tb : Value}
end
section
variable {X : Cx} {n : Nat} {CX : CXT} {C f : Addr} {fd : FuncData} {ps : List Str} {sp : Sp}
end
section
variable {c : Ct} {a b : Expr} {ρ : List Sl} {α R : Type} {pos : Pos} {e1 : α → D} {mx my : M α} {fs : α → List (Str × D)} {n : Str} {j : Nat} {g : α → α → M Bool}
theorem MtI.of2 {g : Gx} {k : Nat} {n m qual : Str} {st : Stmt} {C f0 : Addr} {fd : FuncData} {N ps : List Str} {A R : Type} {encA : A → List Ar} {encB : R → D} {h : A → M R} (ρ0 : A → List Sl) (h0 : ∀ a, startS N (encA a) = ρ0 a) (hc : g.K.cm n = some C) (hm : Meth g.K.K C m f0) (Fu : Fun g.K.K m qual st f0 fd) (S : FnScope N ps (defScope st)) (bd : Binds g.K.K fd ps [])
    (hl : ∀ a, (encA a).length = ps.length) (body : ∀ a, DS (cxD g N (defScope st) k) (defBody st) (ρ0 a) (outV encB) (h a)) : MtI g (k + 1) n m (spM g.K encA encB h) := MtI.of hc hm Fu S bd hl fun a => by rw [h0]; exact body a
end
section
variable {X : Cx} {tg l : Expr} {tl : TE}
/-- a list or a tuple, walked -/
def iSq (K : PySem.W.Frag) (tl : TE) : TI := fun σ H R => tl σ H fun x H1 => ∃ a, x = .ref a ∧ (((∃ xs, SqL K H1 a xs) ∧ R (Itl K a) H1) ∨ ((∃ xs, SqT K H1 a xs) ∧ R (Itt K a) H1))
theorem sq_turn {pins : List (Addr × Obj)} {s : Shared} {σ : L2.St} {H : Hp} {R : It → Hp → Prop} {J : It} {o : Obj} {tn : Nat → Heap → Prop} (I : Inv X pins σ H s) (tu : Turn X.prog X.w X.K tg J [s.heap.objs.size] s.heap.objs.size tn) (h0 : tn 0 (s.heap.push o)) (q : R J H) : PIE X pins σ tg R (.ref s.heap.objs.size) { s with heap := s.heap.push o } := by
  refine ⟨s.heap.objs.size, [s.heap.objs.size], tn, J, H, rfl, I.kept (t' := s.toks) fun b o e => Heap.get?_push_of_some _ e, tu, h0, fun b hb => ?_, q⟩
  rw [List.mem_singleton.mp hb]
  exact I.fpOk (Nat.le_refl _) (I.hok.fresh (Nat.le_refl _))
theorem pi_sq (hl : PE X l tl) : PI X tg l (iSq X.K tl) := by
  refine ⟨fun pins s σ H R I h => thn (hl.run pins s σ H _ I h) fun v s1 ⟨x, H1, I1, r1, a, e, q1⟩ => ?_⟩
  subst e
  cases r1
  rcases q1 with ⟨⟨xs, hq⟩, q⟩ | ⟨⟨xs, hq⟩, q⟩
  · obtain ⟨its, _, p, _⟩ := I1.list hq
    exact wpAny_pyIter_list p.isList (sq_turn I1 (turn_list a _) ⟨_, Heap.get?_push_size _ rfl, rfl, rfl⟩ q)
  · obtain ⟨its, _, p, _⟩ := I1.tuple hq
    exact wpAny_pyIter_tuple (show s1.heap.IsTuple a its.toArray from p) (sq_turn I1 (turn_tuple a _) ⟨_, Heap.get?_push_size _ rfl, rfl, rfl⟩ q)
end
def seqsD : D → Option (List D)
  | .tup l => some l
  | .tpd l => some l
  | .lst l => some l
  | _ => none
theorem di_seqA {c : Ct} {a tg : Expr} {ρ : List Sl} {mx : M D} (ha : DM c a ρ (fun d => d) mx) : DI c tg a true ρ (fun d => d) (mx >>= fun d => ofO (seqsD d)) := by
  obtain ⟨t, h1, h2⟩ := ha
  refine ⟨iSq c.K.K t, fun X I => by rw [← I.K]; exact pi_sq (h1 X I), fun aS B s F H σ R Q q => h2 aS B s F H σ R _ (q.bind.imp fun d s1 q1 v F1 H1 f hs r => ?_)⟩
  obtain ⟨l, hl, q2⟩ := q1.ofO
  have em : l.map (fun d : D => d) = l := List.map_id' l
  have q3 : ∀ (J : It) (F' H' : Hp) (G : Hp → Hp → Prop), Fr aS F H F' H' → SrcAt aS c.K s1 F' H' → ItOk c.K J l G → (∀ F'' H'', Fr aS F' H' F'' H'' → G F'' H'') → (true = true → ∀ F'' H'', Ex F' F'' → Ex F'' H'' → G F'' H'') → Q J H' := by
    rw [← em]; exact q2
  cases d with
  | tup l2 =>
    cases hl
    obtain ⟨p, vs, e0, h3, hz, rs⟩ := r.of_tup
    exact ⟨p, e0, .inr ⟨⟨vs, SqT.of (f.fh _ _ h3)⟩, q3 _ F1 H1 _ f hs (it_tup h3 hz rs) (fun F2 H2 f2 => f2.ff) fun _ F2 H2 g _ => g⟩⟩
  | tpd l2 =>
    cases hl
    obtain ⟨p, o, vs, e0, h3, hd, hz, rs⟩ := r.of_tpd
    exact ⟨p, e0, .inr ⟨⟨vs, .inl (.inr ⟨o, f.fh _ _ h3⟩)⟩, q3 _ F1 H1 _ f hs (it_tupN h3 hz rs) (fun F2 H2 f2 => f2.ff) fun _ F2 H2 g _ => g⟩⟩
  | lst l2 =>
    cases hl
    obtain ⟨p, vs, e0, h3, hz, rs⟩ := r.of_lst
    exact ⟨p, e0, .inl ⟨⟨vs, SqL.of (f.fh _ _ h3)⟩, q3 _ F1 H1 _ f hs (it_list h3 hz rs) (fun F2 H2 f2 => f2.ff) fun _ F2 H2 g _ => g⟩⟩
  | _ => cases hl
section
variable {c : Ct} {e b b2 : Expr} {rest : List Stmt} {ρ : List Sl} {α γ : Type} {enc : α → D} {out : γ → Oc} {pos p2 p3 p4 p5 p6 : Pos} {x : Str} {kt : Nat}
end
section
variable {c : Ct} {e : Expr} {ρ : List Sl} {α β : Type} {enc : α → D} {pos : Pos}
end
section
variable {c : Ct} {a : Expr} {ρ : List Sl} {β κ0 : Type} {e0 : κ0 → D} {eb : β → D} {k0 : κ0 → Key} {pos p2 : Pos}
end
end Dl

namespace Dl
open PySem PySem.Spec PyProof.Rows L2
open Evl (Ex)
section
variable {P : Program} {w : World} {A : Around} {E : Value → Shared → Prop} {s : Shared} {a b : Addr} {S S' : Int → Bool} {n m : Nat}
end
end Dl

namespace Dl
open PySem PySem.Spec PyProof.Rows L2
open Evl (Ex)
def nset (w : World) : Obj := { cls := .type "set", dict := none, data := .set #[] 0 (.fresh 0 0 (!w.params.followText "set-order")) }
section
variable {P : Program} {w : World} {A : Around} {E : Value → Shared → Prop} {s : Shared}
set_option maxHeartbeats 3200000 in
/-- set(xs), xs a list of ints -/
theorem set_of_ints {l : Addr} {its : Array Value} (ns : List Int) {Q : Value → Shared → Prop} (hh : A.handled = none) (hl : s.heap.IsList l its) (hi : IntsAre its.toList ns) (hb : ns.length + 1 < scanBound)
    (h : ∀ (g : Heap) (tk c : Nat), SetR w g s.heap.objs.size (fun j => decide (j ∈ ns)) c → c ≤ ns.length → (∀ b o, s.heap.get? b = some o → g.get? b = some o) → Q (.ref s.heap.objs.size) { s with heap := g, toks := tk }) :
    wpAny (model P w) A (call (.type "set") [.ref l]) Q E s := by
  have sz : its.size = ns.length := by rw [← Array.length_toList]; exact IntsAre.length hi
  obtain ⟨c, tl, k1⟩ := F.called_set.mro
  have k2 := F.called_set.made
  have k3 := F.called_set.sub
  refine wpAny_call (codeAny_of_tree (show wpAny _ _ (callAny (.type "set") _) _ _ _ from wpAny_pure ⟨Code.quiet_builtin _ (by decide +kernel), codeAny_builtin F.entry_type_call ?_⟩))
  rw [Around.under_plain (weight_type_call_type "set" [.ref l] []) rfl]
  have k4 := F.called_set.notType
  have k5 := F.called_set.canCreate
  have k6 := F.typeCall_set_1 (.ref l)
  repeat (any_goals (first | assumption | wp_step))

  refine codeAny_mono (code_set_led1 (.ref l) (E := E) (Q₁ := fun z s₁ => z = .ref s.heap.objs.size ∧ s₁ = { s with heap := s.heap.push (nset w) }) ⟨rfl, rfl⟩) fun r s₁ hr => ?_
  match r, hr with
  | .error e, hr => exact hr
  | .ok (.ret z), hr =>
    obtain ⟨rfl, rfl⟩ := hr
    have g0 : (s.heap.push (nset w)).get? s.heap.objs.size = some (nset w) := Heap.get?_push_size _ rfl
    have hT : Shared.TypeIs { s with heap := s.heap.push (nset w) } (.ref s.heap.objs.size) "set" := ⟨_, g0, rfl⟩
    have k7 := F.called_set.init.lookup
    have k8 := F.called_set.init.bind (.ref s.heap.objs.size)
    repeat (any_goals (first | assumption | wp_step))

    have mono : ∀ {h1 : Heap} {o2 : Obj}, (∀ b o, b ≠ s.heap.objs.size → b ≠ (s.heap.push (nset w)).objs.size → ((s.heap.push (nset w)).push o2).get? b = some o → h1.get? b = some o) → ∀ b o, s.heap.get? b = some o → h1.get? b = some o := fun k b o e => by
      have b0 : b < s.heap.objs.size := Heap.lt_size e
      exact k b o (Nat.ne_of_lt b0) (by rw [Heap.size_push]; exact Nat.ne_of_lt (Nat.lt_succ_of_lt b0)) (Heap.get?_push_of_some _ (Heap.get?_push_of_some _ e))
    refine codeAny_mono (codeAny_call_builtin (R := wants (fun r t => r = .none ∧ ∃ g tk c, t = { s with heap := g, toks := tk } ∧ SetR w g s.heap.objs.size (fun j => decide (j ∈ ns)) c ∧ c ≤ ns.length ∧ ∀ b o, s.heap.get? b = some o → g.get? b = some o) E) F.called_set.init.plain F.entry_set_init (check_set_init_1 hT ?_)) fun r₂ s₂ hr₂ => ?_
    · have hlt : (s.heap.push (nset w)).IsList l its := hl.push _
      obtain ⟨⟨ocls, odict, odata, oslots⟩, hol, hcl, nl, hdl⟩ := hl
      simp only at hcl hdl
      subst hcl hdl
      have ho2 : (s.heap.push (nset w)).get? l = some { cls := .type "list", dict := odict, data := .seq its nl, slots := oslots } := Heap.get?_push_of_some _ hol
      have f1 := F.sub_list_set
      have f2 := F.sub_list_frozenset
      have f3 : (Value.type "list" == Value.type "dict") = false := by decide
      unfold Builtin.«set.__init__» noKeywords Builtin.Frozenset.updateFrom
      generalize hPI : pyIter = PI
      wp_walk
      subst hPI

      refine wpAny_pyIter_list hlt ?_
      refine wpAny_bind (wpAny_runValue ?_)
      have lS : l < s.heap.objs.size := Heap.lt_size hol
      have h3 : A.in1.in1.in1.handled = none := by simp [hh]
      have nI : l ≠ (s.heap.push (nset w)).objs.size := by rw [Heap.size_push]; exact Nat.ne_of_lt (Nat.lt_succ_of_lt lS)
      have Sf : s.heap.objs.size ∉ [(s.heap.push (nset w)).objs.size, l] := by
        rw [Heap.size_push]
        intro z
        rcases List.mem_cons.mp z with z | z
        · exact Nat.ne_of_lt (Nat.lt_succ_self _) z
        · exact Nat.ne_of_gt lS (List.mem_singleton.mp z)
      have hv : ∀ (i : Nat) (v : Value), its[i]? = some v → ∃ k t, ns[i]? = some k ∧ v = .int k t := fun i v e => by
        have lt : i < ns.length := by rw [← sz]; exact (Array.getElem?_eq_some_iff.mp e).1
        obtain ⟨t, q⟩ := PyProof.Rows.IntsAre.int_at hi i v (by rw [Array.getElem?_toList]; exact e)
        exact ⟨ns[i], t, List.getElem?_eq_getElem lt, by rw [q, List.getD_eq_getElem?_getD, List.getElem?_eq_getElem lt]; rfl⟩
      refine set_update_ints ((Walks.list h3 _ l nI its).toS) s.heap.objs.size Sf ns sz hb hv (its.size - 0) 0 _ (by omega) (Nat.zero_le _) ⟨⟨_, Heap.get?_push_size _ rfl, rfl, rfl⟩, hlt.push _⟩ ⟨0, Nat.le_refl 0, setR_new_at (Heap.get?_push_of_some _ g0)⟩ fun s' c' hm hc' hS' => ?_
      obtain ⟨g, g2, d', tk', os'⟩ := s'
      obtain rfl : g2 = s.gens := hm.gens
      obtain rfl : d' = s.drawn := hm.drawn
      obtain rfl : os' = s.os := hm.os
      rw [sz] at hc'
      refine wpAny_pure ?_
      refine wpAny_pure ⟨rfl, g, tk', c', rfl, hS', hc', mono fun b o n1 n2 e => hm.heap b o (fun z => ?_) e⟩
      rcases List.mem_cons.mp z with z | z
      · exact n1 z
      · exact n2 (List.mem_singleton.mp z)
    · match r₂, hr₂ with
      | .error e, hr₂ => exact hr₂
      | .ok (.ret r), hr₂ =>
        obtain ⟨rfl, g, tk, c', rfl, q1, q2, q3⟩ := hr₂
        repeat (any_goals (first | assumption | wp_step))
        exact h _ _ _ q1 q2 q3
      | .ok .next, hr₂ => exact hr₂.elim
  | .ok .next, hr => exact hr.elim
end
end Dl

/-! Dl, part S3: sets of ints. -/
namespace Dl
open PySem PySem.Spec PyProof.Rows L2
open Evl (Ex)
section
variable {X : Cx}
def rSetI (K : PySem.W.Frag) (w : World) : List V → Hp → VK → Prop := fun xs H Q => ∃ (l : Addr) (ns : List Int), xs = [.ref l] ∧ (SqL K H l (ns.map V.int) ∨ SqT K H l (ns.map V.int)) ∧ ns.length ≤ 1000 ∧ ∀ p n, H p = none → n ≤ ns.length → Q (.ref p) (upd H p (SetO w p (fun j => decide (j ∈ ns)) n))
theorem cr_setI (hc : X.calm = true) : CallR X (.type "set") (rSetI X.K X.w) := by
  intro pins s σ H xs us Q I r h
  obtain ⟨l, ns, rfl, hl, hz, q⟩ := h
  rw [Vals.ref1 r]
  have hn := I.hok.fresh (Nat.le_refl _)
  have hb : ns.length + 1 < scanBound := by unfold scanBound; omega
  rcases hl with hl | hl
  · obtain ⟨its, rv, pl, _⟩ := I.list hl
    exact set_of_ints ns (I.ok.hd hc) pl.isList (by simpa using Vals.ints rv) hb fun g tk c hS hc2 k => ⟨.ref s.heap.objs.size, upd H s.heap.objs.size (SetO X.w s.heap.objs.size (fun j => decide (j ∈ ns)) c), I.laid (t' := tk) k (Nat.le_refl _) (setO_new hS), rfl, q _ c hn hc2⟩
  · obtain ⟨its, rv, pl, _⟩ := I.tuple hl
    exact call_set_tupI ns (I.ok.hd hc) pl (by simpa using Vals.ints rv) hb fun g tk c hS hc2 k => ⟨.ref s.heap.objs.size, upd H s.heap.objs.size (SetO X.w s.heap.objs.size (fun j => decide (j ∈ ns)) c), I.laid (t' := tk) k (Nat.le_refl _) (setO_new hS), rfl, q _ c hn hc2⟩
/-- sorted(a set of ints), fewer than 64 members: so many unlike ones -/
def rSortedSetD (w : World) : List V → Hp → VK → Prop := fun vs H Q => ∃ (a : Addr) (S : Int → Bool) (n : Nat) (xs : List Int), vs = [V.ref a] ∧ H a = some (SetO w a S n) ∧ (∀ k, S k = true → k ∈ xs) ∧ xs.eraseDups.length < 64 ∧
  ∀ (ns : List Int) (p : Addr), ns.Pairwise (· < ·) → (∀ k : Int, k ∈ ns ↔ S k = true) → ns.length = n → H p = none → Q (.ref p) (upd H p (.lst (ns.map V.int)))
theorem cr_sortedSetD (hc : X.calm = true) : CallR X (.builtin "sorted") (rSortedSetD X.w) := by
  intro pins s σ H vs us Q I r h
  obtain ⟨a, S, n, xs, rfl, ha, hS, h64, q⟩ := h
  refine cr_sortedSet hc pins s σ H _ us Q I r ⟨a, S, n, rfl, ha, ?_, q⟩
  obtain ⟨o, es, ep, t, ho, hex, hd, g, nd, hm, hb, hf, hn, hr, hl⟩ := setO_get I ha
  have := List.Nodup.length_le_of_subset nd (l₂ := xs.eraseDups) fun k hk => List.mem_eraseDups.mpr (hS k ((hm k).mpr hk))
  rw [List.length_map, Array.length_toList, hn] at this
  omega
end
section
variable {c : Ct} {e a b : Expr} {ρ : List Sl} {pos p2 p3 p4 p5 p6 : Pos}
def setSortI (xs : List Int) : M (List Int) := if xs.length ≤ 1000 ∧ xs.eraseDups.length < 64 then pure (xs.eraseDups.mergeSort (leOf ltI)) else stuck
theorem sort_asc_self {ns xs : List Int} (h : ns.Pairwise (· < ·)) (hm : ∀ k, k ∈ ns ↔ k ∈ xs) : ns = xs.eraseDups.mergeSort (leOf ltI) := by
  have hn : ns.Nodup := h.imp fun z => by omega
  have hp : ns.Perm xs.eraseDups := (List.perm_ext_iff_of_nodup hn (nodup_dups xs)).mpr fun k => by rw [hm, List.mem_eraseDups]
  rw [← sort_uniq Srts.int ltI_total hp]
  refine (List.mergeSort_of_pairwise (h.imp fun {a b} z => ?_)).symm
  unfold leOf ltI
  rw [Bool.not_eq_true', decide_eq_false_iff_not]
  omega
/-- a list or a tuple of ints, borrowed -/
def SeqI (c : Ct) (e : Expr) (ρ : List Sl) (m : M (List Int)) : Prop := DN c e ρ (eL D.int) m ∨ DN c e ρ (eT D.int) m
theorem SeqI.run {m : M (List Int)} (h : SeqI c e ρ m) : ∃ t, (∀ X, c.Is X → PE X e t) ∧ ∀ (aS : Option Addr) (B : Bs) (s : List D) (F H : Hp) (σ : L2.St), REnv aS c.K B s F H σ ρ → ∀ Q, Okk (m s) (fun ns s' => ∀ l F' H', Fr aS F H F' H' → SrcAt aS c.K s' F' H' → (SqL c.K.K H' l (ns.map V.int) ∨ SqT c.K.K H' l (ns.map V.int)) → Q (.ref l) H') → t σ H Q := by
  rcases h with ⟨t, h1, h2⟩ | ⟨t, h1, h2⟩
  · refine ⟨t, h1, fun aS B s F H σ R Q q => h2 aS B s F H σ R Q (q.imp fun ns s1 q1 v F1 H1 f hs1 r => ?_)⟩
    obtain ⟨p, vs, rfl, hsq, hz, rs⟩ := r.list f.fh rfl
    have := rs.ints
    subst this
    exact q1 p F1 H1 f hs1 (.inl hsq)
  · refine ⟨t, h1, fun aS B s F H σ R Q q => h2 aS B s F H σ R Q (q.imp fun ns s1 q1 v F1 H1 f hs1 r => ?_)⟩
    obtain ⟨p, vs, rfl, hsq, hz, rs⟩ := r.tupl f.fh
    have := rs.ints
    subst this
    exact q1 p F1 H1 f hs1 (.inr hsq)
theorem do_sortSetI [Cool c] {mx : M (List Int)} (hg : GI c "sorted") (hm : c.mg "sorted" = none) (hg2 : GI c "set") (hm2 : c.mg "set" = none) (ha : SeqI c a ρ mx) (hs : NoStar a := by intro _ _; rfl) :
    DO c (.Call (.Name "sorted" p2) [.Call (.Name "set" p3) [a] [] p4] [] pos) ρ (fun l => l.map D.int) (mx >>= setSortI) := by
  obtain ⟨t, q1, q2⟩ := ha.run
  refine ⟨tCB (rSortedSetD c.g.w) (tCons (tCB (rSetI c.K.K c.g.w) (tCons t tNil)) tNil), fun X I => ?_, fun aS B s F H σ R Q q => ?_⟩
  · rw [← I.K, ← I.w]
    exact pe_callB (cr_sortedSetD (I.calm Cool.h)) (gl_of I hg) (by rw [I.mg]; exact hm) b_sorted (pa_cons (pe_callTy (cr_setI (I.calm Cool.h)) (gl_of I hg2) (by rw [I.mg]; exact hm2) (by decide +kernel) (pa_cons (q1 X I) pa_nil (hs _ _)) (by decide) (by decide) (hs _ _) (by rfl)) pa_nil (by rfl)) (by decide) (by decide) (by rfl) (by rfl)
  · refine q2 aS B s F H σ R _ (q.bind.imp fun xs s1 q1 l F1 H1 f hs1 r => ?_)
    unfold setSortI at q1
    split at q1
    case isFalse => cases q1
    rename_i hc
    refine ⟨l, xs, rfl, r, by omega, fun a n ha hn => ⟨a, _, n, xs, rfl, upd_same, (fun k hk => of_decide_eq_true hk), hc.2, fun ns p' hp1 hp2 hp3 hp' => ?_⟩⟩
    have hn1 : H1 p' = none := by
      by_cases z : p' = a
      · rw [z]; exact ha
      · rw [upd_ne z] at hp'; exact hp'
    have e2 : Ex F1 (upd H1 a (SetO c.g.w a (fun j => decide (j ∈ xs)) n)) := fun b o hb => by
      have := f.fh _ _ hb
      rw [upd_ne (ne_of_none this ha)]
      exact this
    have en : ns = xs.eraseDups.mergeSort (leOf ltI) := sort_asc_self hp1 fun k => (hp2 k).trans (by rw [decide_eq_true_eq])
    have q3 : Okk ((pure (xs.eraseDups.mergeSort (leOf ltI)) : M (List Int)) s1) _ := q1
    rw [← en] at q3
    refine q3 p' _ F1 _ (f.trans ⟨Ex.refl _, fun b o hb => ?_, fun b o hb hns hh _ => ⟨?_, .inl hb⟩, fun b q => dm_upd b (dm_upd b q)⟩) ⟨tabs_new (tabs_new hs1.tb ha) hp', hs1.nf, fun b hb => ?_⟩ (Fr.none_of f (hs1.notAt hn1) hn1) (hs1.notAt hn1) (Ex.none_of f.fh hn1) upd_same (by rw [List.length_map, hp3]; exact Nat.le_trans (show n ≤ 1000 by omega) (by decide)) (Reps.of_ints ns)
    · have := e2 _ _ hb
      rw [upd_ne (ne_of_none this hp')]
      exact this
    · rw [upd_ne (ne_of_none hh hn1), upd_ne (ne_of_none hh ha)]
      exact hh
    · obtain ⟨h4, h5⟩ := hs1.at' b hb
      exact ⟨h4, h5.loc (by rw [upd_ne (h5.off hn1), upd_ne (h5.off ha)]) (Ex.refl _)⟩
variable {aS : Option Addr} {K : Kx} {F H F1 H1 : Hp} {s s1 : List D}
end
end Dl



namespace W
open PySem PySem.Spec PyProof.Rows L2 Dl
noncomputable section
abbrev D_Book := Int × (List (List Int)) × (List Int)
def f_Book (z : D_Book) : List (Str × D) := [("people", D.int z.1), ("lots", (eT (eT D.int)) z.2.1), ("masks", (eL D.int) z.2.2)]
def e_Book (z : D_Book) : D := .obj "Book" (f_Book z)
abbrev D_Office := D_Book × (List Int) × (List Int) × (List (Int × (List (Int × Int))))
def f_Office (z : D_Office) : List (Str × D) := [("book", e_Book z.1), ("order", (eN D.int) z.2.1), ("kept_lasts", (eT D.int) z.2.2.1), ("bars", (eDk D.int (eL (eP D.int D.int))) z.2.2.2)]
def e_Office (z : D_Office) : D := .obj "Office" (f_Office z)
def sub_Book (n : Str) : Bool := n == "Book"
def m_l_hand (script : List Int) : M (List D) := ((((pure script) >>= fun xs => (pure none) >>= fun l => ((pure (63 : Int)) >>= fun i => pure (some i)) >>= fun h => pure (cutL xs l h)) >>= fun xs => lcM (fun x2 => (pure true)) (fun x2 => ((pure x2) >>= fun i => pure (if i < 0 then -i else i))) xs) >>= fun cells1 => (((consM ((pure cells1) >>= fun z3 => pure ((eL D.int) z3)) (consM (pure (D.int 0)) (consM (pure (D.int 0)) (consM ((opI (fun i j => i + j) (pure (1 : Int)) ((pure cells1) >>= fun l => pure (l.length : Int))) >>= fun z4 => pure (D.int z4)) (consM (pure (D.int 0)) nilM))))) >>= fun l => chk l.length >>= fun _ => pure l) >>= fun a => pure ((fun a => a) a)))
def m_l_draw (many : Int) : M Int := (mIf (mAnd ((getI 2) >>= fun x => (pure (0 : Int)) >>= fun y => pure (decide (x = y))) (opB bLt (getI 1) (((getD 0) >>= fun z1 => ofO ((deL deI) z1)) >>= fun l => pure (l.length : Int)))) ((((getD 0) >>= fun z4 => ofO ((deL deI) z4)) >>= fun xs => (getI 1) >>= fun i => ofO (L2.atI xs i)) >>= fun cell3 => ((opI (fun i j => i + j) (getI 1) (pure (1 : Int))) >>= fun y8 => putD 1 (D.int y8) >>= fun _ => (((opI (fun i j => i + j) (opI (fun i j => i + j) ((getI 3) >>= fun i => (pure (69621 : Int)) >>= fun j => mMul i j) (pure cell3)) (pure (11 : Int))) >>= fun i => (pure (2147483629 : Int)) >>= fun j => mMod i j) >>= fun y7 => putD 3 (D.int y7) >>= fun _ => (mIf (opB bGe (pure cell3) ((pure (10 : Int)) >>= fun i => (pure (18 : Int)) >>= fun j => mPow i j)) ((pure cell3) >>= fun y6 => putD 2 (D.int y6) >>= fun _ => (pure (()))) (pure (())) >>= fun w5 => (pure (())))))) (pure (())) >>= fun w2 => (mIf (opB bGt (getI 2) (pure (0 : Int))) ((((getI 2) >>= fun i => (pure many) >>= fun j => mMod i j) >>= fun digit9 => (((getI 2) >>= fun i => (pure many) >>= fun j => mDiv i j) >>= fun y10 => putD 2 (D.int y10) >>= fun _ => (pure digit9))) >>= fun b => pure ((fun b => b) b)) ((opI (fun i j => i + j) (getI 4) (pure (1 : Int))) >>= fun y14 => putD 4 (D.int y14) >>= fun _ => ((((opI (fun i j => i + j) (getI 3) ((pure (7919 : Int)) >>= fun i => (getI 4) >>= fun j => mMul i j)) >>= fun i => (pure (48271 : Int)) >>= fun j => mMul i j) >>= fun i => (pure (2147483647 : Int)) >>= fun j => mMod i j) >>= fun number11 => ((((pure number11) >>= fun i => (opI (fun i j => i + j) ((pure number11) >>= fun i => (pure (1009 : Int)) >>= fun j => mDiv i j) (pure (69621 : Int))) >>= fun j => mMul i j) >>= fun i => (pure (2147483647 : Int)) >>= fun j => mMod i j) >>= fun number12 => ((((pure number12) >>= fun i => (opI (fun i j => i + j) ((pure number12) >>= fun i => (pure (2003 : Int)) >>= fun j => mDiv i j) (pure (40692 : Int))) >>= fun j => mMul i j) >>= fun i => (pure (2147483399 : Int)) >>= fun j => mMod i j) >>= fun number13 => (((pure number13) >>= fun i => (pure (16 : Int)) >>= fun j => mDiv i j) >>= fun i => (pure many) >>= fun j => mMod i j)))))))
def m_l_least_lots (heaps : (List (List Int))) : M (List (List Int)) := ((nilM >>= fun l => chk l.length >>= fun _ => pure l) >>= fun found1 => ((pure heaps) >>= fun xs => foldM (fun z2 x3 => (((pure heaps) >>= fun xs => lcM (fun x5 => (mAnd ((pure x5) >>= fun x => (pure x3) >>= fun y => pure !(decide (x = y))) (((pure x5) >>= fun xs => lcM (fun x6 => (pure true)) (fun x6 => ((pure x6) >>= fun x => (pure x3) >>= fun xs => pure (decide (x ∈ xs)))) xs) >>= fun l => pure (l.all id)))) (fun x5 => (pure x5)) xs) >>= fun lesser4 => (mIf (mAnd (opB bGt ((pure x3) >>= fun l => pure (l.length : Int)) (pure (1 : Int))) ((((pure lesser4) >>= fun xs => lcM (fun x7 => (opB bGt ((pure x7) >>= fun l => pure (l.length : Int)) (pure (1 : Int)))) (fun x7 => (pure x7)) xs) >>= fun l => pure (l.length : Int)) >>= fun x => (pure (0 : Int)) >>= fun y => pure (decide (x = y)))) ((pure x3) >>= fun a9 => chk (z2.length + 1) >>= fun _ => (pure (z2 ++ [a9]))) (pure z2) >>= fun w8 => (pure w8)))) xs found1 >>= fun z2 => ((pure z2) >>= setSort)))
def m_l_rich_lots (people_here : Int) : M (List (List Int)) := ((nilM >>= fun l => chk l.length >>= fun _ => pure l) >>= fun heaps1 => (((opI (fun i j => i + j) (pure (2 : Int)) ((pure (7 : Int)) >>= fun a2 => m_l_draw a2)) >>= fun i => mRg 0 i) >>= fun xs => foldM (fun z3 x4 => ((((consM (pure (1 : Int)) (consM (pure (1 : Int)) (consM (pure (2 : Int)) (consM (pure (2 : Int)) (consM (pure (3 : Int)) nilM))))) >>= fun l => chk l.length >>= fun _ => pure l) >>= fun xs => ((pure (5 : Int)) >>= fun a6 => m_l_draw a6) >>= fun i => ofO (L2.atI xs i)) >>= fun size5 => ((((pure size5) >>= fun i => mRg 0 i) >>= fun xs => lcM (fun x8 => (pure true)) (fun x8 => (opI (fun i j => i + j) (pure (1 : Int)) ((opI (fun i j => i - j) (pure people_here) (pure (1 : Int))) >>= fun a9 => m_l_draw a9))) xs) >>= fun rest_7 => (((((consM (pure (0 : Int)) nilM) >>= fun l => chk l.length >>= fun _ => pure l) >>= fun x => (pure rest_7) >>= fun y => chk (x.length + y.length) >>= fun _ => pure (x ++ y)) >>= setSortI) >>= fun a10 => chk (z3.length + 1) >>= fun _ => (mIf (((pure (3 : Int)) >>= fun a11 => m_l_draw a11) >>= fun x => (pure (0 : Int)) >>= fun y => pure (decide (x = y))) ((((pure rest_7) >>= fun x => ((consM (opI (fun i j => i + j) (pure (1 : Int)) ((opI (fun i j => i - j) (pure people_here) (pure (1 : Int))) >>= fun a14 => m_l_draw a14)) nilM) >>= fun l => chk l.length >>= fun _ => pure l) >>= fun y => chk (x.length + y.length) >>= fun _ => pure (x ++ y)) >>= setSortI) >>= fun a13 => chk ((z3 ++ [a10]).length + 1) >>= fun _ => (pure ((z3 ++ [a10]) ++ [a13]))) (pure (z3 ++ [a10])) >>= fun w12 => (pure w12)))))) xs heaps1 >>= fun z3 => ((pure z3) >>= fun a15 => m_l_least_lots a15)))
def m_l_order (people_here : Int) : M (List Int) := (((pure people_here) >>= fun i => mRg 0 i) >>= fun left_1 => ((nilM >>= fun l => chk l.length >>= fun _ => pure l) >>= fun found2 => (((pure people_here) >>= fun i => mRg 0 i) >>= fun xs => foldM (fun z3 x4 => (((((pure z3.2) >>= fun l => pure (l.length : Int)) >>= fun a6 => m_l_draw a6) >>= fun j => ofO (popI z3.2 j)) >>= fun a5 => chk (z3.1.length + 1) >>= fun _ => (pure ((z3.1 ++ [a5.1], a5.2))))) xs ((found2, left_1)) >>= fun z3 => (pure z3.1))))
def m_is_integer (thing : D) : M Bool := (mAnd ((pure thing) >>= fun v => pure (isB "int" (eId v))) (((pure thing) >>= fun v => pure (isB "bool" (eId v))) >>= fun p => pure !p))
def m_is_within (thing : D) (least : Int) (most : Int) : M Bool := (mAnd ((pure thing) >>= fun a1 => m_is_integer a1) (mChain bLe bLe (pure least) ((pure thing) >>= fun z2 => ofO (deI z2)) (pure most)))
def m_are_persons (people : Int) (thing : D) : M Bool := (mAnd ((pure thing) >>= fun v => pure (isB "tuple" (eId v))) ((((pure thing) >>= fun d => ofO (tupsD d)) >>= fun xs => lcM (fun x1 => (pure true)) (fun x1 => ((pure x1) >>= fun a2 => (pure (0 : Int)) >>= fun a3 => (opI (fun i j => i - j) (pure people) (pure (1 : Int))) >>= fun a4 => m_is_within a2 a3 a4)) xs) >>= fun l => pure (l.all id)))
def m_is_row (people : Int) (thing : (List Int)) : M Bool := (mAnd ((pure people) >>= fun a2 => ((pure thing) >>= fun z1 => pure ((eN D.int) z1)) >>= fun a3 => m_are_persons a2 a3) ((((pure thing) >>= fun xs => dcM (fun x4 => (pure true)) (fun x4 => (pure x4)) (fun x4 => (pure true)) xs []) >>= fun l => pure (l.length : Int)) >>= fun x => ((pure thing) >>= fun l => pure (l.length : Int)) >>= fun y => pure (decide (x = y))))
def m_is_order (people : Int) (thing : (List Int)) : M Bool := (mAnd ((pure people) >>= fun a1 => (pure thing) >>= fun a2 => m_is_row a1 a2) (((pure thing) >>= fun l => pure (l.length : Int)) >>= fun x => (pure people) >>= fun y => pure (decide (x = y))))
def m_lasts_in (book : D_Book) (order_ : (List Int)) : M (List Int) := ((((pure order_) >>= fun xs => pure (enumI xs)) >>= fun xs => dcM (fun x2 => (pure true)) (fun x2 => (pure x2.2)) (fun x2 => (pure x2.1)) xs []) >>= fun places1 => (((pure book) >>= fun z => pure z.2.1) >>= fun xs => lcM (fun x3 => (pure true)) (fun x3 => ((((pure x3) >>= fun xs => lcM (fun x4 => (pure true)) (fun x4 => (((pure places1) >>= fun l => (pure x4) >>= fun k => ofO (getL l k)) >>= fun x5 => (pure x4) >>= fun x6 => pure (x5, x6))) xs) >>= mMax (ltP ltI ltI)) >>= fun z => pure z.2)) xs))
def m_Office___init__ (book : D_Book) (order_ : (List Int)) : M D_Office := (mIf (((pure book) >>= fun v => pure (isO sub_Book (e_Book v))) >>= fun p => pure !p) stuck (mIf ((((pure book) >>= fun z => pure z.1) >>= fun a1 => (pure order_) >>= fun a2 => m_is_order a1 a2) >>= fun p => pure !p) stuck ((pure book) >>= fun book3 => ((pure order_) >>= fun order_4 => (((pure book) >>= fun a5 => (pure order_) >>= fun a6 => m_lasts_in a5 a6) >>= fun kept_lasts7 => (((pure order_) >>= fun xs => dcM (fun x8 => (pure true)) (fun x8 => (pure x8)) (fun _ => pure []) xs []) >>= fun bars9 => (((pure kept_lasts7) >>= fun xs => pure (enumI xs)) >>= fun xs => foldM (fun z10 x11 => ((pure x11.2) >>= fun k_15 => ofO (getL z10 k_15) >>= fun ys => ((opI Builtin.bitXor (((pure book) >>= fun z => pure z.2.2) >>= fun xs => (pure x11.1) >>= fun i => ofO (L2.atI xs i)) ((pure (1 : Int)) >>= fun i => (pure x11.2) >>= fun j => mShl i j)) >>= fun x12 => (pure x11.1) >>= fun x13 => pure (x12, x13)) >>= fun y16 => chk (ys.length + 1) >>= fun _ => (fun self14 => (pure self14)) (appL z10 k_15 y16))) xs bars9 >>= fun z10 => (pure ((book3, order_4, kept_lasts7, z10))))))))))
def m_are_ascending (things : (List Int)) : M Bool := ((((pure (1 : Int)) >>= fun i => ((pure things) >>= fun l => pure (l.length : Int)) >>= fun j => mRg i j) >>= fun xs => lcM (fun x1 => (pure true)) (fun x1 => (opB bLt ((pure things) >>= fun xs => (opI (fun i j => i - j) (pure x1) (pure (1 : Int))) >>= fun i => ofO (L2.atI xs i)) ((pure things) >>= fun xs => (pure x1) >>= fun i => ofO (L2.atI xs i)))) xs) >>= fun l => pure (l.all id))
def m_is_crowd (people : Int) (thing : D) : M Bool := (mAnd ((pure people) >>= fun a1 => (pure thing) >>= fun a2 => m_are_persons a1 a2) (((pure thing) >>= fun z3 => ofO ((deT deI) z3)) >>= fun a4 => m_are_ascending a4))
def m_is_lot (people : Int) (thing : D) : M Bool := (mAnd ((pure people) >>= fun a1 => (pure thing) >>= fun a2 => m_is_crowd a1 a2) (opB bGt ((pure thing) >>= fun x => lenD (eId x)) (pure (1 : Int))))
def m_bits_of (crowd : (List Int)) : M Int := (((pure crowd) >>= fun xs => lcM (fun x1 => (pure true)) (fun x1 => ((pure (1 : Int)) >>= fun i => (pure x1) >>= fun j => mShl i j)) xs) >>= fun l => pure l.sum)
def m_holds (bits : Int) (some_ : Int) : M Bool := ((opI Builtin.bitAnd (pure bits) (pure some_)) >>= fun x => (pure some_) >>= fun y => pure (decide (x = y)))
def m_first_wrong_lot (people : Int) (lots : (List (List Int))) : M (Option Int) := ((nilM >>= fun l => chk l.length >>= fun _ => pure l) >>= fun found1 => (((pure lots) >>= fun xs => pure (enumI xs)) >>= fun xs => bindS (loopM (fun z2 x3 => (mIf (mOr (((pure people) >>= fun a5 => ((pure x3.2) >>= fun z4 => pure ((eT D.int) z4)) >>= fun a6 => m_is_lot a5 a6) >>= fun p => pure !p) (mAnd (opB bGt (pure x3.1) (pure (0 : Int))) ((((pure lots) >>= fun xs => (opI (fun i j => i - j) (pure x3.1) (pure (1 : Int))) >>= fun i => ofO (L2.atI xs i)) >>= fun x => (pure x3.2) >>= fun y => pure (HT.lexLt x y)) >>= fun p => pure !p))) (((pure x3.1) >>= fun z => pure (some z)) >>= fun b => pure (Sum.inr b)) (((pure x3.2) >>= fun a8 => m_bits_of a8) >>= fun bits7 => (mIf (((pure z2) >>= fun xs => lcM (fun x9 => (pure true)) (fun x9 => (mOr ((pure bits7) >>= fun a10 => (pure x9) >>= fun a11 => m_holds a10 a11) ((pure x9) >>= fun a12 => (pure bits7) >>= fun a13 => m_holds a12 a13))) xs) >>= fun l => pure (l.any id)) (((pure x3.1) >>= fun z => pure (some z)) >>= fun b => pure (Sum.inr b)) ((pure bits7) >>= fun a14 => chk (z2.length + 1) >>= fun _ => (pure (Sum.inl (z2 ++ [a14])))))))) xs found1) (fun z2 => (pure none)) (fun b => b)))
def m_Book_keep (people : Int) (lots : (List (List Int))) : M D_Book := ((pure people) >>= fun people1 => ((pure lots) >>= fun lots2 => (((pure lots) >>= fun xs => lcM (fun x3 => (pure true)) (fun x3 => ((pure x3) >>= fun a4 => m_bits_of a4)) xs) >>= fun masks5 => (pure ((people1, lots2, masks5))))))
def m_Book___init__ (people : Int) (lots : (List (List Int))) : M D_Book := (mIf ((((pure people) >>= fun z1 => pure (D.int z1)) >>= fun a2 => (pure (1 : Int)) >>= fun a3 => (pure (12 : Int)) >>= fun a4 => m_is_within a2 a3 a4) >>= fun p => pure !p) stuck (mIf (mOr (((pure lots) >>= fun v => pure (isB "tuple" ((eT (eT D.int)) v))) >>= fun p => pure !p) (opB bGt ((pure lots) >>= fun l => pure (l.length : Int)) (pure (60 : Int)))) stuck (((pure people) >>= fun a6 => (pure lots) >>= fun a7 => m_first_wrong_lot a6 a7) >>= fun at_5 => (mIf ((pure at_5) >>= fun z => pure !(isN ((eO D.int) z))) stuck ((pure people) >>= fun a8 => (pure lots) >>= fun a9 => m_Book_keep a8 a9 >>= fun o10 => (pure ((o10.1, o10.2.1, o10.2.2))))))))
def m_l_bits (crowd_here : (List Int)) : M Int := ((pure (0 : Int)) >>= fun found1 => ((pure crowd_here) >>= fun xs => foldM (fun z2 x3 => ((opI (fun i j => i + j) (pure z2) ((pure (1 : Int)) >>= fun i => (pure x3) >>= fun j => mShl i j)) >>= fun found4 => (pure found4))) xs found1 >>= fun z2 => (pure z2)))
def m_l_masks (lots_here : (List (List Int))) : M (List Int) := ((pure lots_here) >>= fun xs => lcM (fun x1 => (pure true)) (fun x1 => ((pure x1) >>= fun a2 => m_l_bits a2)) xs)
def m_check_person (people : Int) (thing : Int) : M Unit := (mIf ((((pure thing) >>= fun z1 => pure (D.int z1)) >>= fun a2 => (pure (0 : Int)) >>= fun a3 => (opI (fun i j => i - j) (pure people) (pure (1 : Int))) >>= fun a4 => m_is_within a2 a3 a4) >>= fun p => pure !p) stuck (pure ()))
def m_lots_through (book : D_Book) (person : Int) (ahead : Int) : M (List Int) := ((nilM >>= fun l => chk l.length >>= fun _ => pure l) >>= fun found1 => ((((pure book) >>= fun z => pure z.2.2) >>= fun xs => pure (enumI xs)) >>= fun xs => foldM (fun z2 x3 => (mIf (mAnd ((opI Builtin.bitAnd ((pure x3.2) >>= fun i => (pure person) >>= fun j => mShr i j) (pure (1 : Int))) >>= fun x => (pure (1 : Int)) >>= fun y => pure (decide (x = y))) ((pure ahead) >>= fun a4 => (opI Builtin.bitXor (pure x3.2) ((pure (1 : Int)) >>= fun i => (pure person) >>= fun j => mShl i j)) >>= fun a5 => m_holds a4 a5)) ((pure x3.1) >>= fun a7 => chk (z2.length + 1) >>= fun _ => (pure (z2 ++ [a7]))) (pure z2) >>= fun w6 => (pure w6))) xs found1 >>= fun z2 => (pure z2)))
def m_most_apart : Nat → (List Int) → Int → Int → M Int
  | 0, _, _, _ => stuck
  | rN + 1, masks, at_, used => (mIf ((pure at_) >>= fun x => ((pure masks) >>= fun l => pure (l.length : Int)) >>= fun y => pure (decide (x = y))) ((pure (0 : Int)) >>= fun b => pure ((fun b => b) b)) (mIf (((pure at_) >>= fun x1 => (pure used) >>= fun x2 => pure (x1, x2)) >>= fun k => sHas (eDt (eP D.int D.int) D.int) k >>= fun r => pure (!r)) (((pure masks) >>= fun a5 => (opI (fun i j => i + j) (pure at_) (pure (1 : Int))) >>= fun a6 => (pure used) >>= fun a7 => m_most_apart rN a5 a6 a7) >>= fun best4 => (mIf ((opI Builtin.bitAnd ((pure masks) >>= fun xs => (pure at_) >>= fun i => ofO (L2.atI xs i)) (pure used)) >>= fun x => (pure (0 : Int)) >>= fun y => pure (decide (x = y))) ((opI maxI (pure best4) (opI (fun i j => i + j) (pure (1 : Int)) ((pure masks) >>= fun a10 => (opI (fun i j => i + j) (pure at_) (pure (1 : Int))) >>= fun a11 => (opI Builtin.bitOr (pure used) ((pure masks) >>= fun xs => (pure at_) >>= fun i => ofO (L2.atI xs i))) >>= fun a12 => m_most_apart rN a10 a11 a12))) >>= fun best9 => (pure best9)) (pure best4) >>= fun w8 => ((pure w8) >>= fun y15 => ((pure at_) >>= fun x13 => (pure used) >>= fun x14 => pure (x13, x14)) >>= fun k_16 => sPut (eDt (eP D.int D.int) D.int) k_16 y15 >>= fun _ => (pure (()))))) (pure (())) >>= fun w3 => (((pure at_) >>= fun x17 => (pure used) >>= fun x18 => pure (x17, x18)) >>= fun k => sGet (eDt (eP D.int D.int) D.int) k)))
def m_flower_in (book : D_Book) (person : Int) (ahead : Int) : M (List (List Int)) := (((pure book) >>= fun a2 => (pure person) >>= fun a3 => (pure ahead) >>= fun a4 => m_lots_through a2 a3 a4) >>= fun numbers1 => (((pure numbers1) >>= fun xs => lcM (fun x6 => (pure true)) (fun x6 => (opI Builtin.bitXor (((pure book) >>= fun z => pure z.2.2) >>= fun xs => (pure x6) >>= fun i => ofO (L2.atI xs i)) ((pure (1 : Int)) >>= fun i => (pure person) >>= fun j => mShl i j))) xs) >>= fun masks5 => (withK (newD true) ((pure (0 : Int)) >>= fun used8 => ((nilM >>= fun l => chk l.length >>= fun _ => pure l) >>= fun found9 => (((pure masks5) >>= fun xs => pure (enumI xs)) >>= fun xs => foldM (fun z10 x11 => (mIf ((opI Builtin.bitAnd (pure x11.2) (pure z10.2)) >>= fun x => (pure (0 : Int)) >>= fun y => pure (decide (x = y))) ((opI (fun i j => i + j) (pure (1 : Int)) ((pure masks5) >>= fun a14 => (opI (fun i j => i + j) (pure x11.1) (pure (1 : Int))) >>= fun a15 => (opI Builtin.bitOr (pure z10.2) (pure x11.2)) >>= fun a16 => m_most_apart 62 a14 a15 a16)) >>= fun many13 => (mIf ((pure many13) >>= fun x => ((pure masks5) >>= fun a17 => (pure x11.1) >>= fun a18 => (pure z10.2) >>= fun a19 => m_most_apart 62 a17 a18 a19) >>= fun y => pure (decide (x = y))) (((pure z10.1) >>= fun x => ((consM (((pure book) >>= fun z => pure z.2.1) >>= fun xs => ((pure numbers1) >>= fun xs => (pure x11.1) >>= fun i => ofO (L2.atI xs i)) >>= fun i => ofO (L2.atI xs i)) nilM) >>= fun l => chk l.length >>= fun _ => pure l) >>= fun y => chk (x.length + y.length) >>= fun _ => pure (x ++ y)) >>= fun found21 => ((opI Builtin.bitOr (pure z10.2) (pure x11.2)) >>= fun used22 => (pure ((found21, used22))))) (pure ((z10.1, z10.2))) >>= fun w20 => (pure ((w20.1, w20.2))))) (pure ((z10.1, z10.2))) >>= fun w12 => (pure ((w12.1, w12.2))))) xs ((found9, used8)) >>= fun z10 => (pure z10.1)))))))
def m_ahead_of (office : D_Office) (person : Int) : M Int := ((((pure office) >>= fun z => pure z.2.1) >>= fun xs => (pure none) >>= fun l => ((((pure office) >>= fun z => pure z.2.1) >>= fun xs => (pure person) >>= fun k => ofO (idxI xs k)) >>= fun i => pure (some i)) >>= fun h => cutN xs l h) >>= fun a1 => m_bits_of a1)
def m_longest_out (office : D_Office) (person : Int) : M (List (List Int)) := (((((pure office) >>= fun z => pure z.1) >>= fun z => pure z.1) >>= fun a1 => (pure person) >>= fun a2 => m_check_person a1 a2) >>= fun _ => (((pure office) >>= fun z => pure z.1) >>= fun a5 => (pure person) >>= fun a6 => ((pure office) >>= fun a3 => (pure person) >>= fun a4 => m_ahead_of a3 a4) >>= fun a7 => nd (m_flower_in a5 a6 a7)))
def m_l_let (masks_here : (List Int)) (order_here : (List Int)) (bits_here : Int) : M Int := ((pure (0 : Int)) >>= fun found1 => ((pure order_here) >>= fun xs => foldM (fun z2 x3 => (((pure (1 : Int)) >>= fun i => (pure x3) >>= fun j => mShl i j) >>= fun one_4 => (mIf (opB bGt (opI Builtin.bitAnd (pure bits_here) (pure one_4)) (pure (0 : Int))) (((pure masks_here) >>= fun xs => lcM (fun x7 => (mAnd (opB bGt (opI Builtin.bitAnd (pure x7) (pure one_4)) (pure (0 : Int))) ((opI Builtin.bitAnd (opI Builtin.bitOr (pure z2) (pure one_4)) (pure x7)) >>= fun x => (pure x7) >>= fun y => pure (decide (x = y))))) (fun x7 => (pure x7)) xs) >>= fun barred6 => (mIf (((pure barred6) >>= fun l => pure (l.length : Int)) >>= fun x => (pure (0 : Int)) >>= fun y => pure (decide (x = y))) ((opI Builtin.bitOr (pure z2) (pure one_4)) >>= fun found9 => (pure found9)) (pure z2) >>= fun w8 => (pure w8))) (pure z2) >>= fun w5 => (pure w5)))) xs found1 >>= fun z2 => (pure z2)))
def m_l_crowd (bits_here : Int) : M (List Int) := (((pure (12 : Int)) >>= fun i => mRg 0 i) >>= fun xs => lcM (fun x1 => ((((pure bits_here) >>= fun i => (pure x1) >>= fun j => mShr i j) >>= fun i => (pure (2 : Int)) >>= fun j => mMod i j) >>= fun x => (pure (1 : Int)) >>= fun y => pure (decide (x = y)))) (fun x1 => (pure x1)) xs)
def m_l_next (masks_here : (List Int)) (order_here : (List Int)) (bits_here : Int) : M (List Int) := (((pure masks_here) >>= fun a2 => (pure order_here) >>= fun a3 => (pure bits_here) >>= fun a4 => m_l_let a2 a3 a4) >>= fun inside1 => (((pure order_here) >>= fun xs => lcM (fun x6 => ((((pure inside1) >>= fun i => (pure x6) >>= fun j => mShr i j) >>= fun i => (pure (2 : Int)) >>= fun j => mMod i j) >>= fun x => (pure (0 : Int)) >>= fun y => pure (decide (x = y)))) (fun x6 => (pure x6)) xs) >>= fun ahead5 => ((pure ahead5) >>= fun x => ((pure order_here) >>= fun xs => lcM (fun x7 => ((((pure inside1) >>= fun i => (pure x7) >>= fun j => mShr i j) >>= fun i => (pure (2 : Int)) >>= fun j => mMod i j) >>= fun x => (pure (1 : Int)) >>= fun y => pure (decide (x = y)))) (fun x7 => (pure x7)) xs) >>= fun y => chk (x.length + y.length) >>= fun _ => pure (x ++ y))))
def m_l_led (masks_here : (List Int)) (order_here : (List Int)) (people_here : Int) (person : Int) : M (List (List Int)) := ((nilM >>= fun l => chk l.length >>= fun _ => pure l) >>= fun found1 => (((pure (8 : Int)) >>= fun i => mRg 0 i) >>= fun xs => foldM (fun z2 x3 => ((opI Builtin.bitOr (((pure (1 : Int)) >>= fun i => (pure people_here) >>= fun j => mShl i j) >>= fun a5 => m_l_draw a5) ((pure (1 : Int)) >>= fun i => (pure person) >>= fun j => mShl i j)) >>= fun bits_here4 => (mIf (((((pure masks_here) >>= fun a6 => (pure z2.2) >>= fun a7 => (pure bits_here4) >>= fun a8 => m_l_let a6 a7 a8) >>= fun i => (pure person) >>= fun j => mShr i j) >>= fun i => (pure (2 : Int)) >>= fun j => mMod i j) >>= fun x => (pure (0 : Int)) >>= fun y => pure (decide (x = y))) (((pure z2.1) >>= fun x => ((consM ((pure bits_here4) >>= fun a11 => m_l_crowd a11) nilM) >>= fun l => chk l.length >>= fun _ => pure l) >>= fun y => chk (x.length + y.length) >>= fun _ => pure (x ++ y)) >>= fun found10 => (((pure masks_here) >>= fun a13 => (pure z2.2) >>= fun a14 => (pure bits_here4) >>= fun a15 => m_l_next a13 a14 a15) >>= fun order_here12 => (pure ((found10, order_here12))))) (pure ((z2.1, z2.2))) >>= fun w9 => (pure ((w9.1, w9.2)))))) xs ((found1, order_here)) >>= fun z2 => (pure z2.1)))
def m_l_odd (people_here : Int) : M D := (((consM ((pure people_here) >>= fun z2 => pure (D.int z2)) (consM (((pure (1 : Int)) >>= fun i => pure (-i)) >>= fun z3 => pure (D.int z3)) (consM (pure D.non) (consM (pure (D.bl true)) (consM (pure (D.bl false)) (consM (pure (D.str "0")) (consM (((consM (pure (0 : Int)) nilM) >>= fun l => chk l.length >>= fun _ => pure l) >>= fun z4 => pure ((eT D.int) z4)) (consM (((consM (pure (0 : Int)) nilM) >>= fun l => chk l.length >>= fun _ => pure l) >>= fun z5 => pure ((eL D.int) z5)) (consM (((pure (10 : Int)) >>= fun i => (pure (40 : Int)) >>= fun j => mPow i j) >>= fun z6 => pure (D.int z6)) (consM (pure (D.int 0)) (consM (pure (D.dct [])) nilM))))))))))) >>= fun l => chk l.length >>= fun _ => pure l) >>= fun odd_here1 => ((pure odd_here1) >>= fun xs => ((pure (11 : Int)) >>= fun a7 => m_l_draw a7) >>= fun i => ofO (L2.atI xs i)))
def m_l_deep : M D := ((((consM (pure D.non) (consM (pure (D.str "a")) (consM (((pure (1 : Int)) >>= fun i => pure (-i)) >>= fun z2 => pure (D.int z2)) (consM (pure (D.dct [])) nilM)))) >>= fun l => chk l.length >>= fun _ => pure l) >>= fun xs => ((pure (4 : Int)) >>= fun a3 => m_l_draw a3) >>= fun i => ofO (L2.atI xs i)) >>= fun found1 => (((opI (fun i j => i + j) (pure (1 : Int)) ((pure (30 : Int)) >>= fun a4 => m_l_draw a4)) >>= fun i => mRg 0 i) >>= fun xs => foldM (fun z5 x6 => ((((consM (((consM (pure z5) nilM) >>= fun l => chk l.length >>= fun _ => pure l) >>= fun z8 => pure ((eT eId) z8)) (consM (((consM (pure z5) nilM) >>= fun l => chk l.length >>= fun _ => pure l) >>= fun z9 => pure ((eL eId) z9)) (consM ((((consM (pure z5) (consM (pure z5) nilM)) >>= fun l => chk l.length >>= fun _ => pure l) >>= fun xs => (pure none) >>= fun l => ((pure (1 : Int)) >>= fun i => pure (some i)) >>= fun h => pure (cutL xs l h)) >>= fun z10 => pure ((eT eId) z10)) (consM ((((pure (0 : Int)) >>= fun k => (pure z5) >>= fun v => pure (k, v)) >>= fun z => pure [z]) >>= fun z11 => pure ((eDk D.int eId) z11)) nilM)))) >>= fun l => chk l.length >>= fun _ => pure l) >>= fun xs => ((pure (4 : Int)) >>= fun a12 => m_l_draw a12) >>= fun i => ofO (L2.atI xs i)) >>= fun found7 => (pure found7))) xs found1 >>= fun z5 => (pure z5)))
def m_l_crowd_bent (people_here : Int) (crowd_here : (List Int)) : M D := (((pure (7 : Int)) >>= fun a2 => m_l_draw a2) >>= fun kind1 => (((opI (fun i j => i + j) ((pure crowd_here) >>= fun l => pure (l.length : Int)) (pure (1 : Int))) >>= fun a4 => m_l_draw a4) >>= fun at_3 => (mIf (opB bLt (pure kind1) (pure (2 : Int))) (((((((pure crowd_here) >>= fun xs => (pure none) >>= fun l => ((pure at_3) >>= fun i => pure (some i)) >>= fun h => pure (cutL xs l h)) >>= fun z => pure (List.map D.int z)) >>= fun x => ((consM ((pure people_here) >>= fun a5 => m_l_odd a5) nilM) >>= fun l => chk l.length >>= fun _ => pure l) >>= fun y => chk (x.length + y.length) >>= fun _ => pure (x ++ y)) >>= fun x => (((pure crowd_here) >>= fun xs => ((pure at_3) >>= fun i => pure (some i)) >>= fun l => (pure none) >>= fun h => pure (cutL xs l h)) >>= fun z => pure (List.map D.int z)) >>= fun y => chk (x.length + y.length) >>= fun _ => pure (x ++ y)) >>= fun z6 => pure ((eT eId) z6)) >>= fun b => pure ((fun b => b) b)) (mIf ((pure kind1) >>= fun x => (pure (2 : Int)) >>= fun y => pure (decide (x = y))) (((((((pure crowd_here) >>= fun xs => (pure none) >>= fun l => ((pure at_3) >>= fun i => pure (some i)) >>= fun h => pure (cutL xs l h)) >>= fun z => pure (List.map D.int z)) >>= fun x => ((consM ((pure people_here) >>= fun a7 => m_l_odd a7) nilM) >>= fun l => chk l.length >>= fun _ => pure l) >>= fun y => chk (x.length + y.length) >>= fun _ => pure (x ++ y)) >>= fun x => (((pure crowd_here) >>= fun xs => ((opI (fun i j => i + j) (pure at_3) (pure (1 : Int))) >>= fun i => pure (some i)) >>= fun l => (pure none) >>= fun h => pure (cutL xs l h)) >>= fun z => pure (List.map D.int z)) >>= fun y => chk (x.length + y.length) >>= fun _ => pure (x ++ y)) >>= fun z8 => pure ((eT eId) z8)) >>= fun b => pure ((fun b => b) b)) (mIf ((pure kind1) >>= fun x => (pure (3 : Int)) >>= fun y => pure (decide (x = y))) ((((pure crowd_here) >>= fun xs => pure xs.reverse) >>= fun z9 => pure ((eT D.int) z9)) >>= fun b => pure ((fun b => b) b)) (mIf ((pure kind1) >>= fun x => (pure (4 : Int)) >>= fun y => pure (decide (x = y))) ((((consM ((pure crowd_here) >>= fun z10 => pure ((eL D.int) z10)) (consM (pure D.non) (consM (pure (D.str "01")) (consM (pure (D.int 0)) (consM (pure (D.dct [])) (consM (((consM (pure crowd_here) nilM) >>= fun l => chk l.length >>= fun _ => pure l) >>= fun z11 => pure ((eT (eT D.int)) z11)) (consM (pure (D.bl true)) nilM))))))) >>= fun l => chk l.length >>= fun _ => pure l) >>= fun xs => ((pure (7 : Int)) >>= fun a12 => m_l_draw a12) >>= fun i => ofO (L2.atI xs i)) >>= fun b => pure ((fun b => b) b)) (mIf ((pure kind1) >>= fun x => (pure (5 : Int)) >>= fun y => pure (decide (x = y))) (((((pure crowd_here) >>= fun xs => (pure none) >>= fun l => ((pure at_3) >>= fun i => pure (some i)) >>= fun h => pure (cutL xs l h)) >>= fun x => ((pure crowd_here) >>= fun xs => ((opI (fun i j => i + j) (pure at_3) (pure (1 : Int))) >>= fun i => pure (some i)) >>= fun l => (pure none) >>= fun h => pure (cutL xs l h)) >>= fun y => chk (x.length + y.length) >>= fun _ => pure (x ++ y)) >>= fun z13 => pure ((eT D.int) z13)) >>= fun b => pure ((fun b => b) b)) ( m_l_deep))))))))
def m_l_bent (people_here : Int) (person : Int) (row : (List (List Int))) : M D := (((pure (7 : Int)) >>= fun a2 => m_l_draw a2) >>= fun kind1 => (((opI (fun i j => i + j) ((pure row) >>= fun l => pure (l.length : Int)) (pure (1 : Int))) >>= fun a4 => m_l_draw a4) >>= fun at_3 => (((opI Builtin.bitOr (((pure (1 : Int)) >>= fun i => (pure people_here) >>= fun j => mShl i j) >>= fun a6 => m_l_draw a6) ((pure (1 : Int)) >>= fun i => (pure person) >>= fun j => mShl i j)) >>= fun a7 => m_l_crowd a7) >>= fun crowd_here5 => (mIf ((pure kind1) >>= fun x => (pure (0 : Int)) >>= fun y => pure (decide (x = y))) ((((((pure row) >>= fun xs => (pure none) >>= fun l => ((pure at_3) >>= fun i => pure (some i)) >>= fun h => pure (cutL xs l h)) >>= fun x => ((consM (pure crowd_here5) nilM) >>= fun l => chk l.length >>= fun _ => pure l) >>= fun y => chk (x.length + y.length) >>= fun _ => pure (x ++ y)) >>= fun x => ((pure row) >>= fun xs => ((pure at_3) >>= fun i => pure (some i)) >>= fun l => (pure none) >>= fun h => pure (cutL xs l h)) >>= fun y => chk (x.length + y.length) >>= fun _ => pure (x ++ y)) >>= fun z8 => pure ((eT (eT D.int)) z8)) >>= fun b => pure ((fun b => b) b)) (mIf ((pure kind1) >>= fun x => (pure (1 : Int)) >>= fun y => pure (decide (x = y))) (((((pure row) >>= fun xs => (pure none) >>= fun l => ((pure at_3) >>= fun i => pure (some i)) >>= fun h => pure (cutL xs l h)) >>= fun x => ((pure row) >>= fun xs => ((opI (fun i j => i + j) (pure at_3) (pure (1 : Int))) >>= fun i => pure (some i)) >>= fun l => (pure none) >>= fun h => pure (cutL xs l h)) >>= fun y => chk (x.length + y.length) >>= fun _ => pure (x ++ y)) >>= fun z9 => pure ((eT (eT D.int)) z9)) >>= fun b => pure ((fun b => b) b)) (mIf ((pure kind1) >>= fun x => (pure (2 : Int)) >>= fun y => pure (decide (x = y))) ((((((pure row) >>= fun xs => (pure none) >>= fun l => ((pure at_3) >>= fun i => pure (some i)) >>= fun h => pure (cutL xs l h)) >>= fun x => ((consM (pure crowd_here5) nilM) >>= fun l => chk l.length >>= fun _ => pure l) >>= fun y => chk (x.length + y.length) >>= fun _ => pure (x ++ y)) >>= fun x => ((pure row) >>= fun xs => ((opI (fun i j => i + j) (pure at_3) (pure (1 : Int))) >>= fun i => pure (some i)) >>= fun l => (pure none) >>= fun h => pure (cutL xs l h)) >>= fun y => chk (x.length + y.length) >>= fun _ => pure (x ++ y)) >>= fun z10 => pure ((eT (eT D.int)) z10)) >>= fun b => pure ((fun b => b) b)) (mIf ((pure kind1) >>= fun x => (pure (3 : Int)) >>= fun y => pure (decide (x = y))) ((((pure row) >>= fun xs => pure xs.reverse) >>= fun z11 => pure ((eT (eT D.int)) z11)) >>= fun b => pure ((fun b => b) b)) (mIf ((pure kind1) >>= fun x => (pure (4 : Int)) >>= fun y => pure (decide (x = y))) (((((((pure row) >>= fun xs => (pure none) >>= fun l => ((pure at_3) >>= fun i => pure (some i)) >>= fun h => pure (cutL xs l h)) >>= fun z => pure (List.map (eT D.int) z)) >>= fun x => ((consM ((pure people_here) >>= fun a12 => (pure crowd_here5) >>= fun a13 => m_l_crowd_bent a12 a13) nilM) >>= fun l => chk l.length >>= fun _ => pure l) >>= fun y => chk (x.length + y.length) >>= fun _ => pure (x ++ y)) >>= fun x => (((pure row) >>= fun xs => ((pure at_3) >>= fun i => pure (some i)) >>= fun l => (pure none) >>= fun h => pure (cutL xs l h)) >>= fun z => pure (List.map (eT D.int) z)) >>= fun y => chk (x.length + y.length) >>= fun _ => pure (x ++ y)) >>= fun z14 => pure ((eT eId) z14)) >>= fun b => pure ((fun b => b) b)) (mIf ((pure kind1) >>= fun x => (pure (5 : Int)) >>= fun y => pure (decide (x = y))) ((((consM ((pure row) >>= fun z15 => pure ((eL (eT D.int)) z15)) (consM (pure D.non) (consM (pure (D.str "()")) (consM (pure (D.int 0)) (consM (pure (D.dct [])) (consM ((pure crowd_here5) >>= fun z16 => pure ((eT D.int) z16)) (consM (((consM (pure row) nilM) >>= fun l => chk l.length >>= fun _ => pure l) >>= fun z17 => pure ((eT (eT (eT D.int))) z17)) (consM (pure (D.bl true)) nilM)))))))) >>= fun l => chk l.length >>= fun _ => pure l) >>= fun xs => ((pure (8 : Int)) >>= fun a18 => m_l_draw a18) >>= fun i => ofO (L2.atI xs i)) >>= fun b => pure ((fun b => b) b)) ( m_l_deep))))))))))
def m_l_flag__B_B (told : Bool) (due_here : Bool) : M Bool := (mAnd ((pure told) >>= fun v => pure (isB "bool" (D.bl v))) ((pure told) >>= fun x => (pure due_here) >>= fun y => pure (decide (x = y))))
def m_are_crowds_with (people : Int) (person : Int) (thing : D) : M Bool := (mAnd ((pure thing) >>= fun v => pure (isB "tuple" (eId v))) ((((pure thing) >>= fun d => ofO (seqsD d)) >>= fun xs => lcM (fun x1 => (pure true)) (fun x1 => (mAnd ((pure people) >>= fun a2 => (pure x1) >>= fun a3 => m_is_crowd a2 a3) (((pure person) >>= fun z4 => pure (D.int z4)) >>= fun x => (pure x1) >>= fun y => inD false x y))) xs) >>= fun l => pure (l.all id)))
def m_is_barred (office : D_Office) (inside : Int) (person : Int) : M Bool := (((((pure office) >>= fun z => pure z.2.2.2) >>= fun l => (pure person) >>= fun k => ofO (getL l k)) >>= fun xs => lcM (fun x1 => (pure true)) (fun x1 => ((pure inside) >>= fun a2 => (pure x1.1) >>= fun a3 => m_holds a2 a3)) xs) >>= fun l => pure (l.any id))
def m_in_bits (office : D_Office) (bits : Int) : M Int := ((pure (0 : Int)) >>= fun found1 => (((pure office) >>= fun z => pure z.2.1) >>= fun xs => foldM (fun z2 x3 => (mIf (mAnd ((opI Builtin.bitAnd ((pure bits) >>= fun i => (pure x3) >>= fun j => mShr i j) (pure (1 : Int))) >>= fun x => (pure (1 : Int)) >>= fun y => pure (decide (x = y))) (((pure office) >>= fun a4 => (pure z2) >>= fun a5 => (pure x3) >>= fun a6 => m_is_barred a4 a5 a6) >>= fun p => pure !p)) ((opI Builtin.bitOr (pure z2) ((pure (1 : Int)) >>= fun i => (pure x3) >>= fun j => mShl i j)) >>= fun found8 => (pure found8)) (pure z2) >>= fun w7 => (pure w7))) xs found1 >>= fun z2 => (pure z2)))
def m_moved_back (order_ : (List Int)) (inside : Int) : M (List Int) := (((pure order_) >>= fun xs => lcM (fun x2 => ((opI Builtin.bitAnd ((pure inside) >>= fun i => (pure x2) >>= fun j => mShr i j) (pure (1 : Int))) >>= fun x => (pure (0 : Int)) >>= fun y => pure (decide (x = y)))) (fun x2 => (pure x2)) xs) >>= fun first1 => ((pure first1) >>= fun x => ((pure order_) >>= fun xs => lcM (fun x3 => ((opI Builtin.bitAnd ((pure inside) >>= fun i => (pure x3) >>= fun j => mShr i j) (pure (1 : Int))) >>= fun x => (pure (1 : Int)) >>= fun y => pure (decide (x = y)))) (fun x3 => (pure x3)) xs) >>= fun y => chk (x.length + y.length) >>= fun _ => pure (x ++ y)))
def m_day_behind (office : D_Office) (bits : Int) : M D_Office := (((pure office) >>= fun z => pure z.1) >>= fun a5 => (((pure office) >>= fun z => pure z.2.1) >>= fun a3 => ((pure office) >>= fun a1 => (pure bits) >>= fun a2 => m_in_bits a1 a2) >>= fun a4 => m_moved_back a3 a4) >>= fun a6 => m_Office___init__ a5 a6)
def m_is_out_through (office : D_Office) (person : Int) (thing : D) : M Bool := (((((pure office) >>= fun z => pure z.1) >>= fun z => pure z.1) >>= fun a1 => (pure person) >>= fun a2 => m_check_person a1 a2) >>= fun _ => (mIf (((((pure office) >>= fun z => pure z.1) >>= fun z => pure z.1) >>= fun a3 => (pure person) >>= fun a4 => (pure thing) >>= fun a5 => m_are_crowds_with a3 a4 a5) >>= fun p => pure !p) ((pure false) >>= fun b => pure ((fun b => b) b)) (((pure thing) >>= fun d => ofO (seqsD d)) >>= fun xs => bindS (loopM (fun z6 x7 => (mIf ((opI Builtin.bitAnd (((pure z6) >>= fun a10 => (((pure x7) >>= fun z8 => ofO ((deT deI) z8)) >>= fun a9 => m_bits_of a9) >>= fun a11 => m_in_bits a10 a11) >>= fun i => (pure person) >>= fun j => mShr i j) (pure (1 : Int))) >>= fun x => (pure (1 : Int)) >>= fun y => pure (decide (x = y))) ((pure false) >>= fun b => pure (Sum.inr b)) (((pure z6) >>= fun a15 => (((pure x7) >>= fun z13 => ofO ((deT deI) z13)) >>= fun a14 => m_bits_of a14) >>= fun a16 => m_day_behind a15 a16) >>= fun office12 => (pure (Sum.inl office12))))) xs office) (fun z6 => (pure true)) (fun b => b))))
def m_l_is_integer (thing : D) : M Bool := (mAnd ((pure thing) >>= fun v => pure (isB "int" (eId v))) (((pure thing) >>= fun v => pure (isB "bool" (eId v))) >>= fun p => pure !p))
def m_l_is_crowd (people_here : Int) (thing : D) : M Bool := (mIf (mOr (((pure thing) >>= fun v => pure (isB "tuple" (eId v))) >>= fun p => pure !p) (((((pure thing) >>= fun d => ofO (tupsD d)) >>= fun xs => lcM (fun x1 => (pure true)) (fun x1 => (mAnd ((pure x1) >>= fun a2 => m_l_is_integer a2) (mChain bLe bLt (pure (0 : Int)) ((pure x1) >>= fun z3 => ofO (deI z3)) (pure people_here)))) xs) >>= fun l => pure (l.all id)) >>= fun p => pure !p)) ((pure false) >>= fun b => pure ((fun b => b) b)) ((((pure (1 : Int)) >>= fun i => ((pure thing) >>= fun x => lenD (eId x)) >>= fun j => mRg i j) >>= fun xs => lcM (fun x4 => (pure true)) (fun x4 => (opB bLt (((pure thing) >>= fun x => (opI (fun i j => i - j) (pure x4) (pure (1 : Int))) >>= fun i => ixD x i) >>= fun z5 => ofO (deI z5)) (((pure thing) >>= fun x => (pure x4) >>= fun i => ixD x i) >>= fun z6 => ofO (deI z6)))) xs) >>= fun l => pure (l.all id)))
def m_l_due (masks_here : (List Int)) (order_here : (List Int)) (people_here : Int) (person : Int) (thing : D) : M Bool := (mIf (mOr (((pure thing) >>= fun v => pure (isB "tuple" (eId v))) >>= fun p => pure !p) (((((pure thing) >>= fun d => ofO (seqsD d)) >>= fun xs => lcM (fun x1 => (pure true)) (fun x1 => (mAnd ((pure people_here) >>= fun a2 => (pure x1) >>= fun a3 => m_l_is_crowd a2 a3) (((pure person) >>= fun z4 => pure (D.int z4)) >>= fun x => (pure x1) >>= fun y => inD false x y))) xs) >>= fun l => pure (l.all id)) >>= fun p => pure !p)) ((pure false) >>= fun b => pure ((fun b => b) b)) (((pure thing) >>= fun d => ofO (seqsD d)) >>= fun xs => bindS (loopM (fun z5 x6 => ((((pure x6) >>= fun z8 => ofO ((deT deI) z8)) >>= fun a9 => m_l_bits a9) >>= fun bits_here7 => (mIf (((((pure masks_here) >>= fun a10 => (pure z5) >>= fun a11 => (pure bits_here7) >>= fun a12 => m_l_let a10 a11 a12) >>= fun i => (pure person) >>= fun j => mShr i j) >>= fun i => (pure (2 : Int)) >>= fun j => mMod i j) >>= fun x => (pure (1 : Int)) >>= fun y => pure (decide (x = y))) ((pure false) >>= fun b => pure (Sum.inr b)) (((pure masks_here) >>= fun a14 => (pure z5) >>= fun a15 => (pure bits_here7) >>= fun a16 => m_l_next a14 a15 a16) >>= fun order_here13 => (pure (Sum.inl order_here13)))))) xs order_here) (fun z5 => (pure true)) (fun b => b)))
def m_law (script : List Int) : M Bool := (((pure script) >>= fun a2 => m_l_hand a2) >>= fun hand_here1 => withS (hand_here1.map eId) ((opI (fun i j => i + j) (pure (2 : Int)) ((pure (5 : Int)) >>= fun a4 => m_l_draw a4)) >>= fun people_here3 => (((pure people_here3) >>= fun a6 => m_l_rich_lots a6) >>= fun lots_here5 => (((pure people_here3) >>= fun a8 => m_l_order a8) >>= fun order_here7 => ((((pure people_here3) >>= fun a10 => (pure lots_here5) >>= fun a11 => m_Book___init__ a10 a11) >>= fun a12 => (pure order_here7) >>= fun a13 => m_Office___init__ a12 a13) >>= fun office9 => (((pure lots_here5) >>= fun a15 => m_l_masks a15) >>= fun masks_here14 => ((((consM (pure (0 : Int)) (consM ((pure people_here3) >>= fun a17 => m_l_draw a17) nilM)) >>= fun l => chk l.length >>= fun _ => pure l) >>= fun xs => ((((pure (3 : Int)) >>= fun a18 => m_l_draw a18) >>= fun x => (pure (0 : Int)) >>= fun y => pure (decide (x = y))) >>= fun b => pure (if b then 1 else 0)) >>= fun i => ofO (L2.atI xs i)) >>= fun person16 => (((consM ((pure office9) >>= fun a20 => (pure person16) >>= fun a21 => m_longest_out a20 a21) (consM ((pure masks_here14) >>= fun a22 => (pure order_here7) >>= fun a23 => (pure people_here3) >>= fun a24 => (pure person16) >>= fun a25 => m_l_led a22 a23 a24 a25) (consM (nilM >>= fun l => chk l.length >>= fun _ => pure l) nilM))) >>= fun l => chk l.length >>= fun _ => pure l) >>= fun rows19 => (((pure (10 : Int)) >>= fun i => mRg 0 i) >>= fun xs => bindS (loopM (fun z26 x27 => (((pure rows19) >>= fun xs => ((pure (3 : Int)) >>= fun a29 => m_l_draw a29) >>= fun i => ofO (L2.atI xs i)) >>= fun row28 => (((pure row28) >>= fun z31 => pure ((eT (eT D.int)) z31)) >>= fun thing30 => (mIf (opB bGt ((pure (4 : Int)) >>= fun a32 => m_l_draw a32) (pure (0 : Int))) (((pure people_here3) >>= fun a35 => (pure person16) >>= fun a36 => (pure row28) >>= fun a37 => m_l_bent a35 a36 a37) >>= fun thing34 => (pure thing34)) (pure thing30) >>= fun w33 => (mIf ((((pure office9) >>= fun a38 => (pure person16) >>= fun a39 => (pure w33) >>= fun a40 => m_is_out_through a38 a39 a40) >>= fun a46 => ((pure masks_here14) >>= fun a41 => (pure order_here7) >>= fun a42 => (pure people_here3) >>= fun a43 => (pure person16) >>= fun a44 => (pure w33) >>= fun a45 => m_l_due a41 a42 a43 a44 a45) >>= fun a47 => m_l_flag__B_B a46 a47) >>= fun p => pure !p) ((pure false) >>= fun b => pure (Sum.inr b)) (pure (Sum.inl (())))))))) xs (())) (fun z26 => (pure true)) (fun b => b))))))))))
def topS (i : Nat) : Stmt := PySem.Challenge.pw_lastoflot_k67_whole_out_through_judged.main.body.getD i (.Pass ⟨0, 0, 0, 0⟩)
abbrev s_l_hand : Stmt := topS 38
abbrev s_l_draw : Stmt := topS 39
abbrev s_l_least_lots : Stmt := topS 43
abbrev s_l_rich_lots : Stmt := topS 56
abbrev s_l_order : Stmt := topS 42
abbrev s_is_integer : Stmt := topS 7
abbrev s_is_within : Stmt := topS 8
abbrev s_are_persons : Stmt := topS 10
abbrev s_is_row : Stmt := topS 13
abbrev s_is_order : Stmt := topS 14
abbrev s_lasts_in : Stmt := topS 23
abbrev s_Office___init__ : Stmt := inClass (topS 24) 0
abbrev s_are_ascending : Stmt := topS 9
abbrev s_is_crowd : Stmt := topS 11
abbrev s_is_lot : Stmt := topS 12
abbrev s_bits_of : Stmt := topS 16
abbrev s_holds : Stmt := topS 17
abbrev s_first_wrong_lot : Stmt := topS 20
abbrev s_Book_keep : Stmt := inClass (topS 21) 1
abbrev s_Book___init__ : Stmt := inClass (topS 21) 0
abbrev s_l_bits : Stmt := topS 50
abbrev s_l_masks : Stmt := topS 53
abbrev s_check_person : Stmt := topS 15
abbrev s_lots_through : Stmt := topS 30
abbrev s_most_apart : Stmt := topS 31
abbrev s_flower_in : Stmt := topS 32
abbrev s_ahead_of : Stmt := topS 33
abbrev s_longest_out : Stmt := topS 34
abbrev s_l_let : Stmt := topS 52
abbrev s_l_crowd : Stmt := topS 51
abbrev s_l_next : Stmt := topS 55
abbrev s_l_led : Stmt := topS 63
abbrev s_l_odd : Stmt := topS 60
abbrev s_l_deep : Stmt := topS 57
abbrev s_l_crowd_bent : Stmt := topS 61
abbrev s_l_bent : Stmt := topS 64
abbrev s_l_flag : Stmt := topS 40
abbrev s_are_crowds_with : Stmt := topS 35
abbrev s_is_barred : Stmt := topS 25
abbrev s_in_bits : Stmt := topS 26
abbrev s_moved_back : Stmt := topS 28
abbrev s_day_behind : Stmt := topS 29
abbrev s_is_out_through : Stmt := topS 36
abbrev s_l_is_integer : Stmt := topS 58
abbrev s_l_is_crowd : Stmt := topS 59
abbrev s_l_due : Stmt := topS 62
abbrev s_law : Stmt := topS 65
structure HF (g : Gx) (C_Book : Addr) (C_Office : Addr) : Prop where
  n_abs : g.mg "abs" = none
  n_all : g.mg "all" = none
  n_any : g.mg "any" = none
  n_bool : g.mg "bool" = none
  n_enumerate : g.mg "enumerate" = none
  n_int : g.mg "int" = none
  n_isinstance : g.mg "isinstance" = none
  n_len : g.mg "len" = none
  n_list : g.mg "list" = none
  n_max : g.mg "max" = none
  n_range : g.mg "range" = none
  n_set : g.mg "set" = none
  n_sorted : g.mg "sorted" = none
  n_sum : g.mg "sum" = none
  n_tuple : g.mg "tuple" = none
  c_MOST_LOTS : ∃ t, g.mg "MOST_LOTS" = some (.int 60 t)
  c_MOST_PEOPLE : ∃ t, g.mg "MOST_PEOPLE" = some (.int 12 t)
  cm_Book : g.K.cm "Book" = some C_Book
  mg_Book : g.mg "Book" = some (.ref C_Book)
  na_Book_people : NoAttr g.K.K C_Book "people"
  na_Book_lots : NoAttr g.K.K C_Book "lots"
  na_Book_masks : NoAttr g.K.K C_Book "masks"
  cm_Office : g.K.cm "Office" = some C_Office
  mg_Office : g.mg "Office" = some (.ref C_Office)
  na_Office_book : NoAttr g.K.K C_Office "book"
  na_Office_order : NoAttr g.K.K C_Office "order"
  na_Office_kept_lasts : NoAttr g.K.K C_Office "kept_lasts"
  na_Office_bars : NoAttr g.K.K C_Office "bars"
  is_Book : IsC g C_Book sub_Book
  fn_l_hand : ∃ (f : Addr) (fd : FuncData), Fun g.K.K "_law_hand" "_law_hand" s_l_hand f fd ∧ g.mg "_law_hand" = some (.ref f) ∧ Binds g.K.K fd ["_law_script"] []
  fn_l_draw : ∃ (f : Addr) (fd : FuncData), Fun g.K.K "_law_draw" "_law_draw" s_l_draw f fd ∧ g.mg "_law_draw" = some (.ref f) ∧ Binds g.K.K fd ["_law_hand_here", "_law_many"] []
  fn_l_least_lots : ∃ (f : Addr) (fd : FuncData), Fun g.K.K "_law_least_lots" "_law_least_lots" s_l_least_lots f fd ∧ g.mg "_law_least_lots" = some (.ref f) ∧ Binds g.K.K fd ["_law_heaps"] []
  fn_l_rich_lots : ∃ (f : Addr) (fd : FuncData), Fun g.K.K "_law_rich_lots" "_law_rich_lots" s_l_rich_lots f fd ∧ g.mg "_law_rich_lots" = some (.ref f) ∧ Binds g.K.K fd ["_law_hand_here", "_law_people_here"] []
  fn_l_order : ∃ (f : Addr) (fd : FuncData), Fun g.K.K "_law_order" "_law_order" s_l_order f fd ∧ g.mg "_law_order" = some (.ref f) ∧ Binds g.K.K fd ["_law_hand_here", "_law_people_here"] []
  fn_is_integer : ∃ (f : Addr) (fd : FuncData), Fun g.K.K "is_integer" "is_integer" s_is_integer f fd ∧ g.mg "is_integer" = some (.ref f) ∧ Binds g.K.K fd ["thing"] []
  fn_is_within : ∃ (f : Addr) (fd : FuncData), Fun g.K.K "is_within" "is_within" s_is_within f fd ∧ g.mg "is_within" = some (.ref f) ∧ Binds g.K.K fd ["thing", "least", "most"] []
  fn_are_persons : ∃ (f : Addr) (fd : FuncData), Fun g.K.K "are_persons" "are_persons" s_are_persons f fd ∧ g.mg "are_persons" = some (.ref f) ∧ Binds g.K.K fd ["people", "thing"] []
  fn_is_row : ∃ (f : Addr) (fd : FuncData), Fun g.K.K "is_row" "is_row" s_is_row f fd ∧ g.mg "is_row" = some (.ref f) ∧ Binds g.K.K fd ["people", "thing"] []
  fn_is_order : ∃ (f : Addr) (fd : FuncData), Fun g.K.K "is_order" "is_order" s_is_order f fd ∧ g.mg "is_order" = some (.ref f) ∧ Binds g.K.K fd ["people", "thing"] []
  fn_lasts_in : ∃ (f : Addr) (fd : FuncData), Fun g.K.K "lasts_in" "lasts_in" s_lasts_in f fd ∧ g.mg "lasts_in" = some (.ref f) ∧ Binds g.K.K fd ["book", "order"] []
  fn_Office___init__ : ∃ (f : Addr) (fd : FuncData), Mk g.K.K C_Office f ∧ g.mg "Office" = some (.ref C_Office) ∧ Fun g.K.K "__init__" "Office.__init__" s_Office___init__ f fd ∧ Binds g.K.K fd ["self", "book", "order"] []
  fn_are_ascending : ∃ (f : Addr) (fd : FuncData), Fun g.K.K "are_ascending" "are_ascending" s_are_ascending f fd ∧ g.mg "are_ascending" = some (.ref f) ∧ Binds g.K.K fd ["things"] []
  fn_is_crowd : ∃ (f : Addr) (fd : FuncData), Fun g.K.K "is_crowd" "is_crowd" s_is_crowd f fd ∧ g.mg "is_crowd" = some (.ref f) ∧ Binds g.K.K fd ["people", "thing"] []
  fn_is_lot : ∃ (f : Addr) (fd : FuncData), Fun g.K.K "is_lot" "is_lot" s_is_lot f fd ∧ g.mg "is_lot" = some (.ref f) ∧ Binds g.K.K fd ["people", "thing"] []
  fn_bits_of : ∃ (f : Addr) (fd : FuncData), Fun g.K.K "bits_of" "bits_of" s_bits_of f fd ∧ g.mg "bits_of" = some (.ref f) ∧ Binds g.K.K fd ["crowd"] []
  fn_holds : ∃ (f : Addr) (fd : FuncData), Fun g.K.K "holds" "holds" s_holds f fd ∧ g.mg "holds" = some (.ref f) ∧ Binds g.K.K fd ["bits", "some"] []
  fn_first_wrong_lot : ∃ (f : Addr) (fd : FuncData), Fun g.K.K "first_wrong_lot" "first_wrong_lot" s_first_wrong_lot f fd ∧ g.mg "first_wrong_lot" = some (.ref f) ∧ Binds g.K.K fd ["people", "lots"] []
  fn_Book_keep : ∃ (f : Addr) (fd : FuncData), Meth g.K.K C_Book "keep" f ∧ Fun g.K.K "keep" "Book.keep" s_Book_keep f fd ∧ Binds g.K.K fd ["self", "people", "lots"] []
  fn_Book___init__ : ∃ (f : Addr) (fd : FuncData), Mk g.K.K C_Book f ∧ g.mg "Book" = some (.ref C_Book) ∧ Fun g.K.K "__init__" "Book.__init__" s_Book___init__ f fd ∧ Binds g.K.K fd ["self", "people", "lots"] []
  fn_l_bits : ∃ (f : Addr) (fd : FuncData), Fun g.K.K "_law_bits" "_law_bits" s_l_bits f fd ∧ g.mg "_law_bits" = some (.ref f) ∧ Binds g.K.K fd ["_law_crowd_here"] []
  fn_l_masks : ∃ (f : Addr) (fd : FuncData), Fun g.K.K "_law_masks" "_law_masks" s_l_masks f fd ∧ g.mg "_law_masks" = some (.ref f) ∧ Binds g.K.K fd ["_law_lots_here"] []
  fn_check_person : ∃ (f : Addr) (fd : FuncData), Fun g.K.K "check_person" "check_person" s_check_person f fd ∧ g.mg "check_person" = some (.ref f) ∧ Binds g.K.K fd ["people", "thing"] []
  fn_lots_through : ∃ (f : Addr) (fd : FuncData), Fun g.K.K "lots_through" "lots_through" s_lots_through f fd ∧ g.mg "lots_through" = some (.ref f) ∧ Binds g.K.K fd ["book", "person", "ahead"] []
  fn_most_apart : ∃ (f : Addr) (fd : FuncData), Fun g.K.K "most_apart" "most_apart" s_most_apart f fd ∧ g.mg "most_apart" = some (.ref f) ∧ Binds g.K.K fd ["masks", "at", "used", "known"] []
  fn_flower_in : ∃ (f : Addr) (fd : FuncData), Fun g.K.K "flower_in" "flower_in" s_flower_in f fd ∧ g.mg "flower_in" = some (.ref f) ∧ Binds g.K.K fd ["book", "person", "ahead"] []
  fn_ahead_of : ∃ (f : Addr) (fd : FuncData), Fun g.K.K "ahead_of" "ahead_of" s_ahead_of f fd ∧ g.mg "ahead_of" = some (.ref f) ∧ Binds g.K.K fd ["office", "person"] []
  fn_longest_out : ∃ (f : Addr) (fd : FuncData), Fun g.K.K "longest_out" "longest_out" s_longest_out f fd ∧ g.mg "longest_out" = some (.ref f) ∧ Binds g.K.K fd ["office", "person"] []
  fn_l_let : ∃ (f : Addr) (fd : FuncData), Fun g.K.K "_law_let" "_law_let" s_l_let f fd ∧ g.mg "_law_let" = some (.ref f) ∧ Binds g.K.K fd ["_law_masks_here", "_law_order_here", "_law_bits_here"] []
  fn_l_crowd : ∃ (f : Addr) (fd : FuncData), Fun g.K.K "_law_crowd" "_law_crowd" s_l_crowd f fd ∧ g.mg "_law_crowd" = some (.ref f) ∧ Binds g.K.K fd ["_law_bits_here"] []
  fn_l_next : ∃ (f : Addr) (fd : FuncData), Fun g.K.K "_law_next" "_law_next" s_l_next f fd ∧ g.mg "_law_next" = some (.ref f) ∧ Binds g.K.K fd ["_law_masks_here", "_law_order_here", "_law_bits_here"] []
  fn_l_led : ∃ (f : Addr) (fd : FuncData), Fun g.K.K "_law_led" "_law_led" s_l_led f fd ∧ g.mg "_law_led" = some (.ref f) ∧ Binds g.K.K fd ["_law_hand_here", "_law_masks_here", "_law_order_here", "_law_people_here", "_law_person"] []
  fn_l_odd : ∃ (f : Addr) (fd : FuncData), Fun g.K.K "_law_odd" "_law_odd" s_l_odd f fd ∧ g.mg "_law_odd" = some (.ref f) ∧ Binds g.K.K fd ["_law_hand_here", "_law_people_here"] []
  fn_l_deep : ∃ (f : Addr) (fd : FuncData), Fun g.K.K "_law_deep" "_law_deep" s_l_deep f fd ∧ g.mg "_law_deep" = some (.ref f) ∧ Binds g.K.K fd ["_law_hand_here"] []
  fn_l_crowd_bent : ∃ (f : Addr) (fd : FuncData), Fun g.K.K "_law_crowd_bent" "_law_crowd_bent" s_l_crowd_bent f fd ∧ g.mg "_law_crowd_bent" = some (.ref f) ∧ Binds g.K.K fd ["_law_hand_here", "_law_people_here", "_law_crowd_here"] []
  fn_l_bent : ∃ (f : Addr) (fd : FuncData), Fun g.K.K "_law_bent" "_law_bent" s_l_bent f fd ∧ g.mg "_law_bent" = some (.ref f) ∧ Binds g.K.K fd ["_law_hand_here", "_law_people_here", "_law_person", "_law_row"] []
  fn_l_flag : ∃ (f : Addr) (fd : FuncData), Fun g.K.K "_law_flag" "_law_flag" s_l_flag f fd ∧ g.mg "_law_flag" = some (.ref f) ∧ Binds g.K.K fd ["_law_told", "_law_due_here"] []
  fn_are_crowds_with : ∃ (f : Addr) (fd : FuncData), Fun g.K.K "are_crowds_with" "are_crowds_with" s_are_crowds_with f fd ∧ g.mg "are_crowds_with" = some (.ref f) ∧ Binds g.K.K fd ["people", "person", "thing"] []
  fn_is_barred : ∃ (f : Addr) (fd : FuncData), Fun g.K.K "is_barred" "is_barred" s_is_barred f fd ∧ g.mg "is_barred" = some (.ref f) ∧ Binds g.K.K fd ["office", "inside", "person"] []
  fn_in_bits : ∃ (f : Addr) (fd : FuncData), Fun g.K.K "in_bits" "in_bits" s_in_bits f fd ∧ g.mg "in_bits" = some (.ref f) ∧ Binds g.K.K fd ["office", "bits"] []
  fn_moved_back : ∃ (f : Addr) (fd : FuncData), Fun g.K.K "moved_back" "moved_back" s_moved_back f fd ∧ g.mg "moved_back" = some (.ref f) ∧ Binds g.K.K fd ["order", "inside"] []
  fn_day_behind : ∃ (f : Addr) (fd : FuncData), Fun g.K.K "day_behind" "day_behind" s_day_behind f fd ∧ g.mg "day_behind" = some (.ref f) ∧ Binds g.K.K fd ["office", "bits"] []
  fn_is_out_through : ∃ (f : Addr) (fd : FuncData), Fun g.K.K "is_out_through" "is_out_through" s_is_out_through f fd ∧ g.mg "is_out_through" = some (.ref f) ∧ Binds g.K.K fd ["office", "person", "thing"] []
  fn_l_is_integer : ∃ (f : Addr) (fd : FuncData), Fun g.K.K "_law_is_integer" "_law_is_integer" s_l_is_integer f fd ∧ g.mg "_law_is_integer" = some (.ref f) ∧ Binds g.K.K fd ["_law_thing"] []
  fn_l_is_crowd : ∃ (f : Addr) (fd : FuncData), Fun g.K.K "_law_is_crowd" "_law_is_crowd" s_l_is_crowd f fd ∧ g.mg "_law_is_crowd" = some (.ref f) ∧ Binds g.K.K fd ["_law_people_here", "_law_thing"] []
  fn_l_due : ∃ (f : Addr) (fd : FuncData), Fun g.K.K "_law_due" "_law_due" s_l_due f fd ∧ g.mg "_law_due" = some (.ref f) ∧ Binds g.K.K fd ["_law_masks_here", "_law_order_here", "_law_people_here", "_law_person", "_law_thing"] []
section
variable {g : Gx} {C_Book : Addr} {C_Office : Addr}
theorem f_l_hand (T : HF g C_Book C_Office) : FnI g 1 "_law_hand" (spO g.K (aC eScr aN) (fun l => l.map eId) (fun p => m_l_hand p.1)) := by
  obtain ⟨f, fd, Fu, gx, bd⟩ := T.fn_l_hand
  exact FnI.own2 (N := ["_law_script", "_law_cells", "_law_cell"]) (fun p => [.im (eScr p.1), .no, .no]) (fun _ => rfl) Fu gx ⟨rfl, rfl, rfl, by decide +kernel, rfl, by decide +kernel, by decide +kernel⟩ bd (fun _ => rfl) fun p => (ds_setOA 1 (doa_lc 1 (by rfl) (by rfl) (by rfl) (by rfl) (by rfl) [("_law_cell", 2)] (by kernel_rfl) (di_lst (DO.toM (do_sliceS (DP.toM (dp_var 0 (by rfl) (by exact .inl rfl) (by rfl))) pt_none (pt_some (DP.toM dp_int))))) (dg_name 2 (by rfl) (by exact .inl rfl) (by exact .inr rfl)) (by decide) (fun x2 => dq_nil) (fun x2 => (dm_abs (by rfl) T.n_abs (DM.toN (dm_toInt (by rfl) T.n_int (DM.toN (DP.toM (dp_var 2 (by rfl) (by exact .inl rfl) (by rfl))))))))) fun cells1 => (ds_freeze 1 (by rfl) (ds_retO (inj := (fun a => a)) (by intro _; rfl) (do_lstH (enc := eId) (dh_cons (dm_up (DP.toM (dp_var 1 (by rfl) (by exact .inl rfl) (by rfl)))) (dh_cons (DP.toM dp_int) (dh_cons (DP.toM dp_int) (dh_cons (dm_up (dm_add (DP.toM dp_int) (dm_lenL (by rfl) T.n_len (DM.toN (DP.toM (dp_var 1 (by rfl) (by exact .inl rfl) (by rfl))))))) (dh_cons (DP.toM dp_int) dh_nil)))))))))
theorem f_l_draw (T : HF g C_Book C_Office) : FnI g 1 "_law_draw" (spM g.K (aR (aC D.int aN)) D.int (fun p => m_l_draw p.1)) := by
  obtain ⟨f, fd, Fu, gx, bd⟩ := T.fn_l_draw
  exact FnI.val2 (N := ["_law_hand_here", "_law_many", "_law_cell", "_law_digit", "_law_number"]) (fun p => [.sr, .im (D.int p.1), .no, .no, .no]) (fun _ => rfl) Fu gx ⟨rfl, rfl, rfl, by decide +kernel, rfl, by decide +kernel, by decide +kernel⟩ bd (fun _ => rfl) fun p => (ds_ifN (ρm := (fun (w2 : Unit) => [.sr, .im (D.int p.1), .no, .no, .no])) (dtm_w (dwm_and (dt_eq Eqs.int (DM.toN (dm_srcI 0 2 (by rfl) (by exact .inl rfl) (by rfl))) (DM.toN (DP.toM dp_int))) (dwm_and1 (dt_lt (dm_srcI 0 1 (by rfl) (by exact .inl rfl) (by rfl)) (dm_lenL (by rfl) T.n_len (DM.toN (dm_as (deL deI) (deL_ok deI_ok) (dm_srcD 0 0 (by rfl) (by exact .inl rfl) (by rfl))))))))) (ds_set 2 (by rfl) (by exact .inl rfl) (by exact .inl rfl) (DM.toE (dm_ix (eA := (eL D.int)) (g := fun xs => xs) (fun _ => rfl) (DM.toN (dm_as (deL deI) (deL_ok deI_ok) (dm_srcD 0 0 (by rfl) (by exact .inl rfl) (by rfl)))) (DM.toN (dm_srcI 0 1 (by rfl) (by exact .inl rfl) (by rfl))))) fun cell3 => (ds_srcSet 0 1 (by rfl) (by exact .inl rfl) (by rfl) (dm_add (dm_srcI 0 1 (by rfl) (by exact .inl rfl) (by rfl)) (DP.toM dp_int)) (ds_srcSet 0 3 (by rfl) (by exact .inl rfl) (by rfl) (dm_mod (dm_toInt (by rfl) T.n_int (DM.toN (dm_add (dm_add (dm_mul (dm_srcI 0 3 (by rfl) (by exact .inl rfl) (by rfl)) (DP.toM dp_int)) (DP.toM (dp_var 2 (by rfl) (by exact .inl rfl) (by rfl)))) (DP.toM dp_int)))) (DP.toM dp_int)) (ds_ifN (ρm := (fun (w5 : Unit) => [.sr, .im (D.int p.1), .im (D.int cell3), .no, .no])) (dt_ge (DP.toM (dp_var 2 (by rfl) (by exact .inl rfl) (by rfl))) (dm_pow (DP.toM dp_int) (DP.toM dp_int))) (ds_srcSet 0 2 (by rfl) (by exact .inl rfl) (by rfl) (DP.toM (dp_var 2 (by rfl) (by exact .inl rfl) (by rfl))) (ds_end (by rfl) (.s (.s (.s (.n (.n .z))))))) (ds_end (by rfl) (.s (.s (.s (.n (.n .z)))))) fun w5 => (ds_end (by rfl) (.s (.s (.n (.n (.n .z)))))))))) (ds_end (by rfl) (.s (.s (.n (.n (.n .z)))))) fun w2 => (ds_ifR (outR := outV D.int) (inj := (fun b => b)) (by intro _; rfl) (by intro _; rfl) (dt_gt (dm_srcI 0 2 (by rfl) (by exact .inl rfl) (by rfl)) (DP.toM dp_int)) (ds_set 3 (by rfl) (by exact .inl rfl) (by exact .inl rfl) (DM.toE (dm_mod (dm_toInt (by rfl) T.n_int (DM.toN (dm_srcI 0 2 (by rfl) (by exact .inl rfl) (by rfl)))) (DP.toM (dp_var 1 (by rfl) (by exact .inl rfl) (by rfl))))) fun digit9 => (ds_srcSet 0 2 (by rfl) (by exact .inl rfl) (by rfl) (dm_div (dm_srcI 0 2 (by rfl) (by exact .inl rfl) (by rfl)) (DP.toM (dp_var 1 (by rfl) (by exact .inl rfl) (by rfl)))) (ds_retV (by intro _; rfl) (DP.toM (dp_var 3 (by rfl) (by exact .inl rfl) (by rfl)))))) (ds_srcSet 0 4 (by rfl) (by exact .inl rfl) (by rfl) (dm_add (dm_srcI 0 4 (by rfl) (by exact .inl rfl) (by rfl)) (DP.toM dp_int)) (ds_set 4 (by rfl) (by exact .inl rfl) (by exact .inl rfl) (DM.toE (dm_mod (dm_toInt (by rfl) T.n_int (DM.toN (dm_mul (dm_toInt (by rfl) T.n_int (DM.toN (dm_add (dm_srcI 0 3 (by rfl) (by exact .inl rfl) (by rfl)) (dm_mul (DP.toM dp_int) (dm_srcI 0 4 (by rfl) (by exact .inl rfl) (by rfl)))))) (DP.toM dp_int)))) (DP.toM dp_int))) fun number11 => (ds_set 4 (by rfl) (by exact .inl rfl) (by exact .inl rfl) (DM.toE (dm_mod (dm_toInt (by rfl) T.n_int (DM.toN (dm_mul (DP.toM (dp_var 4 (by rfl) (by exact .inl rfl) (by rfl))) (dm_add (dm_div (DP.toM (dp_var 4 (by rfl) (by exact .inl rfl) (by rfl))) (DP.toM dp_int)) (DP.toM dp_int))))) (DP.toM dp_int))) fun number12 => (ds_set 4 (by rfl) (by exact .inl rfl) (by exact .inl rfl) (DM.toE (dm_mod (dm_toInt (by rfl) T.n_int (DM.toN (dm_mul (DP.toM (dp_var 4 (by rfl) (by exact .inl rfl) (by rfl))) (dm_add (dm_div (DP.toM (dp_var 4 (by rfl) (by exact .inl rfl) (by rfl))) (DP.toM dp_int)) (DP.toM dp_int))))) (DP.toM dp_int))) fun number13 => (ds_retV (by intro _; rfl) (dm_mod (dm_toInt (by rfl) T.n_int (DM.toN (dm_div (DP.toM (dp_var 4 (by rfl) (by exact .inl rfl) (by rfl))) (DP.toM dp_int)))) (DP.toM (dp_var 1 (by rfl) (by exact .inl rfl) (by rfl)))))))))))
theorem f_l_least_lots (T : HF g C_Book C_Office) : FnI g 1 "_law_least_lots" (spM g.K (aC (eL (eT D.int)) aN) (eT (eT D.int)) (fun p => m_l_least_lots p.1)) := by
  obtain ⟨f, fd, Fu, gx, bd⟩ := T.fn_l_least_lots
  exact FnI.val2 (N := ["_law_heaps", "_law_found", "_law_heap", "_law_lesser", "_law_other", "_law_person"]) (fun p => [.im ((eL (eT D.int)) p.1), .no, .no, .no, .no, .no]) (fun _ => rfl) Fu gx ⟨rfl, rfl, rfl, by decide +kernel, rfl, by decide +kernel, by decide +kernel⟩ bd (fun _ => rfl) fun p => (ds_setO 1 (by rfl) (by exact .inl rfl) (by exact .inl rfl) (do_lstH (enc := (eT D.int)) dh_nil) fun found1 => (ds_forF (ρl := (fun (z2 : (List (List Int))) => [.im ((eL (eT D.int)) p.1), .ow (List.map (eT D.int) z2), .no, .no, .no, .no])) (js := [2]) (di_lst (DP.toM (dp_var 0 (by rfl) (by exact .inl rfl) (by rfl)))) (dg_name 2 (by rfl) (by exact .inr rfl) (by exact .inl rfl)) (.s (.s (.n (.n (.n (.n .z)))))) (fun z2 x3 => (ds_setOA 3 (doa_lc 3 (by rfl) (by rfl) (by rfl) (by rfl) (by rfl) [("_law_other", 4)] (by kernel_rfl) (di_lst (DP.toM (dp_var 0 (by rfl) (by exact .inl rfl) (by rfl)))) (dg_name 4 (by rfl) (by exact .inl rfl) (by exact .inr rfl)) (by decide) (fun x5 => (dq_one (dtm_w (dwm_and (dt_ne (Eqs.tup Eqs.int (by decide)) (DM.toN (DP.toM (dp_var 4 (by rfl) (by exact .inl rfl) (by rfl)))) (DM.toN (DP.toM (dp_var 2 (by rfl) (by exact .inr (.inl rfl)) (by rfl))))) (dwm_and1 (dtm_val (dm_all (by rfl) T.n_all (DM.toN (DO.toM (do_lc [("_law_person", 5)] (by kernel_rfl) (di_tup (DP.toM (dp_var 4 (by rfl) (by exact .inl rfl) (by rfl)))) (dg_name 5 (by rfl) (by exact .inl rfl) (by exact .inr rfl)) (by decide) (fun x6 => dq_nil) (fun x6 => (dm_inT Eqs.int (by decide) (DM.toN (DP.toM (dp_var 5 (by rfl) (by exact .inl rfl) (by rfl)))) (DM.toN (DP.toM (dp_var 2 (by rfl) (by exact .inr (.inl rfl)) (by rfl)))))))))))))))) (fun x5 => (DP.toM (dp_var 4 (by rfl) (by exact .inl rfl) (by rfl))))) fun lesser4 => (ds_freeze 3 (by rfl) (ds_ifN (ρm := (fun (w8 : (List (List Int))) => [.im ((eL (eT D.int)) p.1), .ow (List.map (eT D.int) w8), .im ((eT D.int) x3), .im ((eL (eT D.int)) lesser4), .no, .no])) (dtm_w (dwm_and (dt_gt (dm_lenT (by rfl) T.n_len (DM.toN (DP.toM (dp_var 2 (by rfl) (by exact .inr (.inl rfl)) (by rfl))))) (DP.toM dp_int)) (dwm_and1 (dt_eq Eqs.int (DM.toN (dm_lenL (by rfl) T.n_len (DM.toN (DO.toM (do_lc [("_law_other", 4)] (by kernel_rfl) (di_lst (DP.toM (dp_var 3 (by rfl) (by exact .inl rfl) (by rfl)))) (dg_name 4 (by rfl) (by exact .inl rfl) (by exact .inr rfl)) (by decide) (fun x7 => (dq_one (dt_gt (dm_lenT (by rfl) T.n_len (DM.toN (DP.toM (dp_var 4 (by rfl) (by exact .inl rfl) (by rfl))))) (DP.toM dp_int)))) (fun x7 => (DP.toM (dp_var 4 (by rfl) (by exact .inl rfl) (by rfl))))))))) (DM.toN (DP.toM dp_int)))))) (ds_appendE 1 _ (g := fun z : (List Int) => z) (by rfl) (by exact .inl rfl) (by rfl) (DM.toE (DP.toM (dp_var 2 (by rfl) (by exact .inr (.inl rfl)) (by rfl)))) (fun _ => (by rfl)) fun a9 => (ds_end (by rfl) (.s (.s (.s (.s (.n (.n .z)))))))) (ds_end (by rfl) (.s (.s (.s (.s (.n (.n .z))))))) fun w8 => (ds_end (by rfl) (.s (.s (.n (.n (.n (.n .z))))))))))) fun z2 => (ds_retV (by intro _; rfl) (dm_tupL (by rfl) T.n_tuple (DM.toN (DO.toM (do_sortSetT (by rfl) T.n_sorted (by rfl) T.n_set (DB.toN (db_own 1 (by rfl) (by exact .inl rfl) (by rfl))))))))))
theorem f_l_rich_lots (T : HF g C_Book C_Office) : FnI g 2 "_law_rich_lots" (spM g.K (aR (aC D.int aN)) (eT (eT D.int)) (fun p => m_l_rich_lots p.1)) := by
  obtain ⟨f, fd, Fu, gx, bd⟩ := T.fn_l_rich_lots
  exact FnI.val2 (N := ["_law_hand_here", "_law_people_here", "_law_heaps", "_law_turn", "_law_size", "_law_rest", "_law_k"]) (fun p => [.sr, .im (D.int p.1), .no, .no, .no, .no, .no]) (fun _ => rfl) Fu gx ⟨rfl, rfl, rfl, by decide +kernel, rfl, by decide +kernel, by decide +kernel⟩ bd (fun _ => rfl) fun p => (ds_setO 2 (by rfl) (by exact .inl rfl) (by exact .inl rfl) (do_lstH (enc := (eT D.int)) dh_nil) fun heaps1 => (ds_forF (ρl := (fun (z3 : (List (List Int))) => [.sr, .im (D.int p.1), .ow (List.map (eT D.int) z3), .no, .no, .no, .no])) (js := [3]) (di_range1 (by rfl) T.n_range (dm_add (DP.toM dp_int) (dm_s1 0 (by rfl) (by exact .inr (.inl rfl)) (by rfl) (f_l_draw T) (Nat.le_of_ble_eq_true rfl) (by rfl) (DP.toM dp_int)))) (dg_name 3 (by rfl) (by exact .inl rfl) (by exact .inl rfl)) (.s (.s (.s (.n (.n (.n (.n .z))))))) (fun z3 x4 => (ds_set 4 (by rfl) (by exact .inl rfl) (by exact .inl rfl) (DM.toE (dm_ix (eA := (eL D.int)) (g := fun xs => xs) (fun _ => rfl) (DM.toN (DO.toM (do_lstH (enc := D.int) (dh_cons (DP.toM dp_int) (dh_cons (DP.toM dp_int) (dh_cons (DP.toM dp_int) (dh_cons (DP.toM dp_int) (dh_cons (DP.toM dp_int) dh_nil)))))))) (DM.toN (dm_s1 0 (by rfl) (by exact .inr (.inl rfl)) (by rfl) (f_l_draw T) (Nat.le_of_ble_eq_true rfl) (by rfl) (DP.toM dp_int))))) fun size5 => (ds_setOA 5 (doa_lc 5 (by rfl) (by rfl) (by rfl) (by rfl) (by rfl) [("_law_k", 6)] (by kernel_rfl) (di_range1 (by rfl) T.n_range (DP.toM (dp_var 4 (by rfl) (by exact .inl rfl) (by rfl)))) (dg_name 6 (by rfl) (by exact .inl rfl) (by exact .inr rfl)) (by decide) (fun x8 => dq_nil) (fun x8 => (dm_add (DP.toM dp_int) (dm_s1 0 (by rfl) (by exact .inr (.inl rfl)) (by rfl) (f_l_draw T) (Nat.le_of_ble_eq_true rfl) (by rfl) (dm_sub (DP.toM (dp_var 1 (by rfl) (by exact .inr (.inl rfl)) (by rfl))) (DP.toM dp_int)))))) fun rest_7 => (ds_freeze 5 (by rfl) (ds_appendE 2 _ (g := fun z : (List Int) => z) (by rfl) (by exact .inl rfl) (by rfl) (DM.toE (dm_tupL (by rfl) T.n_tuple (DM.toN (DO.toM (do_sortSetI (by rfl) T.n_sorted (by rfl) T.n_set (.inl (DM.toN (DO.toM (do_catL (DM.toN (DO.toM (do_lstH (enc := D.int) (dh_cons (DP.toM dp_int) dh_nil)))) (DM.toN (DP.toM (dp_var 5 (by rfl) (by exact .inl rfl) (by rfl))))))))))))) (fun _ => (by rfl)) fun a10 => (ds_ifN (ρm := (fun (w12 : (List (List Int))) => [.sr, .im (D.int p.1), .ow (List.map (eT D.int) w12), .im (D.int x4), .im (D.int size5), .im ((eL D.int) rest_7), .no])) (dt_eq Eqs.int (DM.toN (dm_s1 0 (by rfl) (by exact .inr (.inl rfl)) (by rfl) (f_l_draw T) (Nat.le_of_ble_eq_true rfl) (by rfl) (DP.toM dp_int))) (DM.toN (DP.toM dp_int))) (ds_appendE 2 _ (g := fun z : (List Int) => z) (by rfl) (by exact .inl rfl) (by rfl) (DM.toE (dm_tupL (by rfl) T.n_tuple (DM.toN (DO.toM (do_sortSetI (by rfl) T.n_sorted (by rfl) T.n_set (.inl (DM.toN (DO.toM (do_catL (DM.toN (DP.toM (dp_var 5 (by rfl) (by exact .inl rfl) (by rfl)))) (DM.toN (DO.toM (do_lstH (enc := D.int) (dh_cons (dm_add (DP.toM dp_int) (dm_s1 0 (by rfl) (by exact .inr (.inl rfl)) (by rfl) (f_l_draw T) (Nat.le_of_ble_eq_true rfl) (by rfl) (dm_sub (DP.toM (dp_var 1 (by rfl) (by exact .inr (.inl rfl)) (by rfl))) (DP.toM dp_int)))) dh_nil))))))))))))) (fun _ => (by rfl)) fun a13 => (ds_end (by rfl) (.s (.s (.s (.s (.s (.s (.n .z))))))))) (ds_end (by rfl) (.s (.s (.s (.s (.s (.s (.n .z)))))))) fun w12 => (ds_end (by rfl) (.s (.s (.s (.n (.n (.n (.n .z)))))))))))))) fun z3 => (ds_freeze 2 (by rfl) (ds_retV (by intro _; rfl) (dm_c1 (f_l_least_lots T) (Nat.le_of_ble_eq_true rfl) (by rfl) (DP.toM (dp_var 2 (by rfl) (by exact .inl rfl) (by rfl))))))))
theorem f_l_order (T : HF g C_Book C_Office) : FnI g 2 "_law_order" (spM g.K (aR (aC D.int aN)) (eN D.int) (fun p => m_l_order p.1)) := by
  obtain ⟨f, fd, Fu, gx, bd⟩ := T.fn_l_order
  exact FnI.val2 (N := ["_law_hand_here", "_law_people_here", "_law_left", "_law_found", "_law_turn"]) (fun p => [.sr, .im (D.int p.1), .no, .no, .no]) (fun _ => rfl) Fu gx ⟨rfl, rfl, rfl, by decide +kernel, rfl, by decide +kernel, by decide +kernel⟩ bd (fun _ => rfl) fun p => (ds_setO 2 (by rfl) (by exact .inl rfl) (by exact .inl rfl) (do_listRg1 (by rfl) T.n_list (by rfl) T.n_range (DP.toM (dp_var 1 (by rfl) (by exact .inl rfl) (by rfl)))) fun left_1 => (ds_setO 3 (by rfl) (by exact .inl rfl) (by exact .inl rfl) (do_lstH (enc := D.int) dh_nil) fun found2 => (ds_forF (ρl := (fun (z3 : ((List Int) × (List Int))) => [.sr, .im (D.int p.1), .ow (List.map D.int z3.2), .ow (List.map D.int z3.1), .no])) (js := [4]) (di_range1 (by rfl) T.n_range (DP.toM (dp_var 1 (by rfl) (by exact .inl rfl) (by rfl)))) (dg_name 4 (by rfl) (by exact .inl rfl) (by exact .inl rfl)) (.s (.s (.s (.s (.n .z))))) (fun z3 x4 => (ds_appendE 3 _ (g := fun z : Int × List Int => z.1) (by rfl) (by exact .inl rfl) (by rfl) (de_popAt 2 _ (by rfl) (by exact .inl rfl) (by rfl) (dm_s1 0 (by rfl) (by exact .inl rfl) (by rfl) (f_l_draw T) (Nat.le_of_ble_eq_true rfl) (by rfl) (dm_lenL (by rfl) T.n_len (DB.toN (db_own 2 (by rfl) (by exact .inl rfl) (by rfl)))))) (fun _ => (by rfl)) fun a5 => (ds_end (by rfl) (.s (.s (.s (.s (.n .z)))))))) fun z3 => (ds_retV (by intro _; rfl) (dm_tupN (by rfl) T.n_tuple (DB.toN (db_own 3 (by rfl) (by exact .inl rfl) (by rfl))))))))
theorem f_is_integer (T : HF g C_Book C_Office) : FnI g 1 "is_integer" (spM g.K (aC eId aN) D.bl (fun p => m_is_integer p.1)) := by
  obtain ⟨f, fd, Fu, gx, bd⟩ := T.fn_is_integer
  exact FnI.val2 (N := ["thing"]) (fun p => [.im (eId p.1)]) (fun _ => rfl) Fu gx ⟨rfl, rfl, rfl, by decide +kernel, rfl, by decide +kernel, by decide +kernel⟩ bd (fun _ => rfl) fun p => (ds_retV (by intro _; rfl) (dm_and (dm_isi "int" (by decide) (by rfl) T.n_isinstance (by rfl) T.n_int b_int (DM.toN (DP.toM (dp_var 0 (by rfl) (by exact .inl rfl) (by rfl))))) (dm_one (dm_not (dm_isi "bool" (by decide) (by rfl) T.n_isinstance (by rfl) T.n_bool b_bool (DM.toN (DP.toM (dp_var 0 (by rfl) (by exact .inl rfl) (by rfl)))))))))
theorem f_is_within (T : HF g C_Book C_Office) : FnI g 2 "is_within" (spM g.K (aC eId (aC D.int (aC D.int aN))) D.bl (fun p => m_is_within p.1 p.2.1 p.2.2.1)) := by
  obtain ⟨f, fd, Fu, gx, bd⟩ := T.fn_is_within
  exact FnI.val2 (N := ["thing", "least", "most"]) (fun p => [.im (eId p.1), .im (D.int p.2.1), .im (D.int p.2.2.1)]) (fun _ => rfl) Fu gx ⟨rfl, rfl, rfl, by decide +kernel, rfl, by decide +kernel, by decide +kernel⟩ bd (fun _ => rfl) fun p => (ds_retV (by intro _; rfl) (dm_and (dm_c1 (f_is_integer T) (Nat.le_of_ble_eq_true rfl) (by rfl) (DP.toM (dp_var 0 (by rfl) (by exact .inl rfl) (by rfl)))) (dm_one (dm_chain (fun X => op_le) (fun X => op_le) (DP.toM (dp_var 1 (by rfl) (by exact .inl rfl) (by rfl))) (dm_as deI deI_ok (DP.toM (dp_var 0 (by rfl) (by exact .inl rfl) (by rfl)))) (DP.toM (dp_var 2 (by rfl) (by exact .inl rfl) (by rfl))) (by with_unfolding_all rfl)))))
theorem f_are_persons (T : HF g C_Book C_Office) : FnI g 3 "are_persons" (spM g.K (aC D.int (aC eId aN)) D.bl (fun p => m_are_persons p.1 p.2.1)) := by
  obtain ⟨f, fd, Fu, gx, bd⟩ := T.fn_are_persons
  exact FnI.val2 (N := ["people", "thing", "person"]) (fun p => [.im (D.int p.1), .im (eId p.2.1), .no]) (fun _ => rfl) Fu gx ⟨rfl, rfl, rfl, by decide +kernel, rfl, by decide +kernel, by decide +kernel⟩ bd (fun _ => rfl) fun p => (ds_retV (by intro _; rfl) (dm_and (dm_isi "tuple" (by decide) (by rfl) T.n_isinstance (by rfl) T.n_tuple b_tuple (DM.toN (DP.toM (dp_var 1 (by rfl) (by exact .inl rfl) (by rfl))))) (dm_one (dm_all (by rfl) T.n_all (DM.toN (DO.toM (do_lc [("person", 2)] (by kernel_rfl) (di_tupA (DP.toM (dp_var 1 (by rfl) (by exact .inl rfl) (by rfl)))) (dg_name 2 (by rfl) (by exact .inl rfl) (by exact .inr rfl)) (by decide) (fun x1 => dq_nil) (fun x1 => (dm_c3 (f_is_within T) (Nat.le_of_ble_eq_true rfl) (by rfl) (DP.toM (dp_var 2 (by rfl) (by exact .inl rfl) (by rfl))) (DP.toM dp_int) (dm_sub (DP.toM (dp_var 0 (by rfl) (by exact .inr (.inl rfl)) (by rfl))) (DP.toM dp_int)))))))))))
theorem f_is_row (T : HF g C_Book C_Office) : FnI g 4 "is_row" (spM g.K (aC D.int (aC (eN D.int) aN)) D.bl (fun p => m_is_row p.1 p.2.1)) := by
  obtain ⟨f, fd, Fu, gx, bd⟩ := T.fn_is_row
  exact FnI.val2 (N := ["people", "thing", "person"]) (fun p => [.im (D.int p.1), .im ((eN D.int) p.2.1), .no]) (fun _ => rfl) Fu gx ⟨rfl, rfl, rfl, by decide +kernel, rfl, by decide +kernel, by decide +kernel⟩ bd (fun _ => rfl) fun p => (ds_retV (by intro _; rfl) (dm_and (dm_c2 (f_are_persons T) (Nat.le_of_ble_eq_true rfl) (by rfl) (DP.toM (dp_var 0 (by rfl) (by exact .inl rfl) (by rfl))) (dm_up (DP.toM (dp_var 1 (by rfl) (by exact .inl rfl) (by rfl))))) (dm_one (dm_eq Eqs.int (DM.toN (dm_lenD (Dct.k Kk.int) (by rfl) T.n_len (DM.toN (DW.toM (fun _ => rfl) (fun _ => rfl) (dw_dc Kk.int [("person", 2)] (by kernel_rfl) (di_tupN (DP.toM (dp_var 1 (by rfl) (by exact .inl rfl) (by rfl)))) (dg_name 2 (by rfl) (by exact .inl rfl) (by exact .inr rfl)) (by decide) (fun x4 => dq_nil) (fun x4 => (DP.toM (dp_var 2 (by rfl) (by exact .inl rfl) (by rfl)))) (fun x4 => (DP.toM dp_bl))))))) (DM.toN (dm_lenN (by rfl) T.n_len (DM.toN (DP.toM (dp_var 1 (by rfl) (by exact .inl rfl) (by rfl))))))))))
theorem f_is_order (T : HF g C_Book C_Office) : FnI g 5 "is_order" (spM g.K (aC D.int (aC (eN D.int) aN)) D.bl (fun p => m_is_order p.1 p.2.1)) := by
  obtain ⟨f, fd, Fu, gx, bd⟩ := T.fn_is_order
  exact FnI.val2 (N := ["people", "thing"]) (fun p => [.im (D.int p.1), .im ((eN D.int) p.2.1)]) (fun _ => rfl) Fu gx ⟨rfl, rfl, rfl, by decide +kernel, rfl, by decide +kernel, by decide +kernel⟩ bd (fun _ => rfl) fun p => (ds_retV (by intro _; rfl) (dm_and (dm_c2 (f_is_row T) (Nat.le_of_ble_eq_true rfl) (by rfl) (DP.toM (dp_var 0 (by rfl) (by exact .inl rfl) (by rfl))) (DP.toM (dp_var 1 (by rfl) (by exact .inl rfl) (by rfl)))) (dm_one (dm_eq Eqs.int (DM.toN (dm_lenN (by rfl) T.n_len (DM.toN (DP.toM (dp_var 1 (by rfl) (by exact .inl rfl) (by rfl)))))) (DM.toN (DP.toM (dp_var 0 (by rfl) (by exact .inl rfl) (by rfl))))))))
theorem f_lasts_in (T : HF g C_Book C_Office) : FnI g 1 "lasts_in" (spM g.K (aC e_Book (aC (eN D.int) aN)) (eT D.int) (fun p => m_lasts_in p.1 p.2.1)) := by
  obtain ⟨f, fd, Fu, gx, bd⟩ := T.fn_lasts_in
  exact FnI.val2 (N := ["book", "order", "places", "place", "person", "lot"]) (fun p => [.im (e_Book p.1), .im ((eN D.int) p.2.1), .no, .no, .no, .no]) (fun _ => rfl) Fu gx ⟨rfl, rfl, rfl, by decide +kernel, rfl, by decide +kernel, by decide +kernel⟩ bd (fun _ => rfl) fun p => (ds_setWA (o := (oK D.int D.int)) 2 (dwa_cell 2 (by rfl) (by exact .inr rfl) (by exact .inl rfl) (by rfl) (dw_dc Kk.int [("place", 3), ("person", 4)] (by kernel_rfl) (di_enumN (by rfl) T.n_enumerate (DP.toM (dp_var 1 (by rfl) (by exact .inl rfl) (by rfl)))) (dg_pair (dg_name 3 (by rfl) (by exact .inl rfl) (by exact .inr rfl)) (dg_name 4 (by rfl) (by exact .inl rfl) (by exact .inr rfl))) (by decide) (fun x2 => dq_nil) (fun x2 => (DP.toM (dp_var 4 (by rfl) (by exact .inl rfl) (by rfl)))) (fun x2 => (DP.toM (dp_var 3 (by rfl) (by exact .inl rfl) (by rfl)))))) fun places1 => (ds_freezeO 2 (oK D.int D.int places1) ((eDk D.int D.int) places1) (by intro _ _ _ z; cases z) rfl (by rfl) (ds_retV (by intro _; rfl) (dm_tupL (by rfl) T.n_tuple (DM.toN (DO.toM (do_lc [("lot", 5)] (by kernel_rfl) (di_tup (dm_fld (fs := f_Book) T.cm_Book (T.na_Book_lots) (fun _ => rfl) (fun _ => by rfl) (DP.toM (dp_var 0 (by rfl) (by exact .inl rfl) (by rfl))))) (dg_name 5 (by rfl) (by exact .inl rfl) (by exact .inr rfl)) (by decide) (fun x3 => dq_nil) (fun x3 => (dm_part (k := 1) (fun _ => rfl) (fun _ => rfl) (dm_maxL (Eqs.pair Eqs.int Eqs.int (by decide)) (Srts.pair Srts.int Eqs.int Srts.int Eqs.int) nn_pair (by rfl) T.n_max (DM.toN (DO.toM (do_lc [("person", 4)] (by kernel_rfl) (di_tup (DP.toM (dp_var 5 (by rfl) (by exact .inl rfl) (by rfl)))) (dg_name 4 (by rfl) (by exact .inl rfl) (by exact .inr rfl)) (by decide) (fun x4 => dq_nil) (fun x4 => (dm_tup2 (dm_dget (Dct.k Kk.int) (DM.toN (DP.toM (dp_var 2 (by rfl) (by exact .inr (.inl rfl)) (by rfl)))) (DM.toN (DP.toM (dp_var 4 (by rfl) (by exact .inl rfl) (by rfl))))) (DP.toM (dp_var 4 (by rfl) (by exact .inl rfl) (by rfl))))))))))))))))))
theorem f_Office___init__ (T : HF g C_Book C_Office) : MkI g 6 "Office" (spS g.K "Office" (fun _ => []) (aC e_Book (aC (eN D.int) aN)) (fun _ r => f_Office r) (fun p => m_Office___init__ p.1 p.2.1)) := by
  obtain ⟨f, fd, mk, gx, Fu, bd⟩ := T.fn_Office___init__
  exact MkI.of2 (N := ["self", "book", "order", "number", "last", "person"]) (ρe := (fun _ b => [.oo (.ob true "Office" (f_Office b)), .no, .no, .no, .no, .no])) (fun p => [.oo (.ob true "Office" []), .im (e_Book p.1), .im ((eN D.int) p.2.1), .no, .no, .no]) (fun _ => rfl) T.cm_Office mk gx Fu ⟨rfl, rfl, rfl, by decide +kernel, rfl, by decide +kernel, by decide +kernel⟩ bd (fun _ => rfl) (fun _ _ => rfl) fun p => (ds_ifStuck (dtm_not (dtm_val (dm_isO T.is_Book (by rfl) T.n_isinstance (by rfl) T.mg_Book (DM.toN (DP.toM (dp_var 1 (by rfl) (by exact .inl rfl) (by rfl))))))) (ds_ifStuck (dtm_not (dtm_val (dm_c2 (f_is_order T) (Nat.le_of_ble_eq_true rfl) (by rfl) (dm_fld (fs := f_Book) T.cm_Book (T.na_Book_people) (fun _ => rfl) (fun _ => by rfl) (DP.toM (dp_var 1 (by rfl) (by exact .inl rfl) (by rfl)))) (DP.toM (dp_var 2 (by rfl) (by exact .inl rfl) (by rfl)))))) (ds_setF 0 true "Office" _ (by rfl) (by exact .inl rfl) (by rfl) T.cm_Office T.na_Office_book (Nat.le_of_ble_eq_true rfl) (DP.toM (dp_var 1 (by rfl) (by exact .inl rfl) (by rfl))) fun book3 => (ds_setF 0 true "Office" _ (by rfl) (by exact .inl rfl) (by rfl) T.cm_Office T.na_Office_order (Nat.le_of_ble_eq_true rfl) (DP.toM (dp_var 2 (by rfl) (by exact .inl rfl) (by rfl))) fun order_4 => (ds_setF 0 true "Office" _ (by rfl) (by exact .inl rfl) (by rfl) T.cm_Office T.na_Office_kept_lasts (Nat.le_of_ble_eq_true rfl) (dm_c2 (f_lasts_in T) (Nat.le_of_ble_eq_true rfl) (by rfl) (DP.toM (dp_var 1 (by rfl) (by exact .inl rfl) (by rfl))) (DP.toM (dp_var 2 (by rfl) (by exact .inl rfl) (by rfl)))) fun kept_lasts7 => (ds_setFW 0 true "Office" "bars" _ (by rfl) (by exact .inl rfl) (by rfl) T.cm_Office T.na_Office_bars (Nat.le_of_ble_eq_true rfl) (by rfl) (dw_dcl Kk.int (eP D.int D.int) [("person", 5)] (by kernel_rfl) (di_tupN (DP.toM (dp_var 2 (by rfl) (by exact .inl rfl) (by rfl)))) (dg_name 5 (by rfl) (by exact .inl rfl) (by exact .inr rfl)) (by decide) (fun x8 => dq_nil) (fun x8 => (DP.toM (dp_var 5 (by rfl) (by exact .inl rfl) (by rfl))))) fun bars9 => (ds_forF (ρl := (fun (z10 : (List (Int × List (Int × Int)))) => [.oo (.od true "Office" [("book", e_Book book3), ("order", (eN D.int) order_4), ("kept_lasts", (eT D.int) kept_lasts7)] "bars" (encL D.int (eP D.int D.int) z10)), .im (e_Book p.1), .im ((eN D.int) p.2.1), .no, .no, .no])) (js := [3, 4]) (di_enumT (by rfl) T.n_enumerate (DP.toM (dp_fldT 0 (by rfl) (by exact .inl rfl) (by rfl) T.cm_Office T.na_Office_kept_lasts (by rfl)))) (dg_pair (dg_name 3 (by rfl) (by exact .inl rfl) (by exact .inl rfl)) (dg_name 4 (by rfl) (by exact .inl rfl) (by exact .inl rfl))) (.s (.s (.s (.n (.n (.n .z)))))) (fun z10 x11 => (ds_tabApp 0 Kk.int (fun l => (.od true "Office" [("book", e_Book book3), ("order", (eN D.int) order_4), ("kept_lasts", (eT D.int) kept_lasts7)] "bars" (encL D.int (eP D.int D.int) l))) (fun _ => rfl) (fun _ _ => rfl) z10 (n := fun self14 => (pure self14)) (by rfl) (dtab_fld 0 (by rfl) (by exact .inl rfl) (by rfl) T.cm_Office T.na_Office_bars (by rfl)) (DP.toM (dp_var 4 (by rfl) (by exact .inl rfl) (by rfl))) (dm_tup2 (dm_bxor (dm_ix (eA := (eL D.int)) (g := fun xs => xs) (fun _ => rfl) (DM.toN (dm_fld (fs := f_Book) T.cm_Book (T.na_Book_masks) (fun _ => rfl) (fun _ => by rfl) (DP.toM (dp_var 1 (by rfl) (by exact .inl rfl) (by rfl))))) (DM.toN (DP.toM (dp_var 3 (by rfl) (by exact .inl rfl) (by rfl))))) (dm_shl (DP.toM dp_int) (DP.toM (dp_var 4 (by rfl) (by exact .inl rfl) (by rfl))))) (DP.toM (dp_var 3 (by rfl) (by exact .inl rfl) (by rfl)))) fun self14 => (ds_end (by rfl) (.s (.s (.s (.n (.n (.n .z))))))))) fun z10 => (ds_freezeTab 0 _ _ _ _ _ (encL_D _) (by rfl) (ds_end (by rfl) (.s (.n (.n (.n (.n (.n .z)))))))))))))))
theorem f_are_ascending (T : HF g C_Book C_Office) : FnI g 1 "are_ascending" (spM g.K (aC (eT D.int) aN) D.bl (fun p => m_are_ascending p.1)) := by
  obtain ⟨f, fd, Fu, gx, bd⟩ := T.fn_are_ascending
  exact FnI.val2 (N := ["things", "at"]) (fun p => [.im ((eT D.int) p.1), .no]) (fun _ => rfl) Fu gx ⟨rfl, rfl, rfl, by decide +kernel, rfl, by decide +kernel, by decide +kernel⟩ bd (fun _ => rfl) fun p => (ds_retV (by intro _; rfl) (dm_all (by rfl) T.n_all (DM.toN (DO.toM (do_lc [("at", 1)] (by kernel_rfl) (di_range2 (by rfl) T.n_range (DP.toM dp_int) (dm_lenT (by rfl) T.n_len (DM.toN (DP.toM (dp_var 0 (by rfl) (by exact .inr (.inl rfl)) (by rfl)))))) (dg_name 1 (by rfl) (by exact .inl rfl) (by exact .inr rfl)) (by decide) (fun x1 => dq_nil) (fun x1 => (dm_lt (dm_ix (eA := (eT D.int)) (g := fun xs => xs) (fun _ => rfl) (DM.toN (DP.toM (dp_var 0 (by rfl) (by exact .inr (.inl rfl)) (by rfl)))) (DM.toN (dm_sub (DP.toM (dp_var 1 (by rfl) (by exact .inl rfl) (by rfl))) (DP.toM dp_int)))) (dm_ix (eA := (eT D.int)) (g := fun xs => xs) (fun _ => rfl) (DM.toN (DP.toM (dp_var 0 (by rfl) (by exact .inr (.inl rfl)) (by rfl)))) (DM.toN (DP.toM (dp_var 1 (by rfl) (by exact .inl rfl) (by rfl))))))))))))
theorem f_is_crowd (T : HF g C_Book C_Office) : FnI g 4 "is_crowd" (spM g.K (aC D.int (aC eId aN)) D.bl (fun p => m_is_crowd p.1 p.2.1)) := by
  obtain ⟨f, fd, Fu, gx, bd⟩ := T.fn_is_crowd
  exact FnI.val2 (N := ["people", "thing"]) (fun p => [.im (D.int p.1), .im (eId p.2.1)]) (fun _ => rfl) Fu gx ⟨rfl, rfl, rfl, by decide +kernel, rfl, by decide +kernel, by decide +kernel⟩ bd (fun _ => rfl) fun p => (ds_retV (by intro _; rfl) (dm_and (dm_c2 (f_are_persons T) (Nat.le_of_ble_eq_true rfl) (by rfl) (DP.toM (dp_var 0 (by rfl) (by exact .inl rfl) (by rfl))) (DP.toM (dp_var 1 (by rfl) (by exact .inl rfl) (by rfl)))) (dm_one (dm_c1 (f_are_ascending T) (Nat.le_of_ble_eq_true rfl) (by rfl) (dm_as (deT deI) (deT_ok deI_ok) (DP.toM (dp_var 1 (by rfl) (by exact .inl rfl) (by rfl))))))))
theorem f_is_lot (T : HF g C_Book C_Office) : FnI g 5 "is_lot" (spM g.K (aC D.int (aC eId aN)) D.bl (fun p => m_is_lot p.1 p.2.1)) := by
  obtain ⟨f, fd, Fu, gx, bd⟩ := T.fn_is_lot
  exact FnI.val2 (N := ["people", "thing"]) (fun p => [.im (D.int p.1), .im (eId p.2.1)]) (fun _ => rfl) Fu gx ⟨rfl, rfl, rfl, by decide +kernel, rfl, by decide +kernel, by decide +kernel⟩ bd (fun _ => rfl) fun p => (ds_retV (by intro _; rfl) (dm_and (dm_c2 (f_is_crowd T) (Nat.le_of_ble_eq_true rfl) (by rfl) (DP.toM (dp_var 0 (by rfl) (by exact .inl rfl) (by rfl))) (DP.toM (dp_var 1 (by rfl) (by exact .inl rfl) (by rfl)))) (dm_one (dm_gt (dm_len (by rfl) T.n_len (DM.toN (DP.toM (dp_var 1 (by rfl) (by exact .inl rfl) (by rfl))))) (DP.toM dp_int)))))
theorem f_bits_of (T : HF g C_Book C_Office) : FnI g 1 "bits_of" (spM g.K (aC (eT D.int) aN) D.int (fun p => m_bits_of p.1)) := by
  obtain ⟨f, fd, Fu, gx, bd⟩ := T.fn_bits_of
  exact FnI.val2 (N := ["crowd", "person"]) (fun p => [.im ((eT D.int) p.1), .no]) (fun _ => rfl) Fu gx ⟨rfl, rfl, rfl, by decide +kernel, rfl, by decide +kernel, by decide +kernel⟩ bd (fun _ => rfl) fun p => (ds_retV (by intro _; rfl) (dm_sum (by rfl) T.n_sum (DM.toN (DO.toM (do_lc [("person", 1)] (by kernel_rfl) (di_tup (DP.toM (dp_var 0 (by rfl) (by exact .inl rfl) (by rfl)))) (dg_name 1 (by rfl) (by exact .inl rfl) (by exact .inr rfl)) (by decide) (fun x1 => dq_nil) (fun x1 => (dm_shl (DP.toM dp_int) (DP.toM (dp_var 1 (by rfl) (by exact .inl rfl) (by rfl))))))))))
theorem f_holds (T : HF g C_Book C_Office) : FnI g 1 "holds" (spM g.K (aC D.int (aC D.int aN)) D.bl (fun p => m_holds p.1 p.2.1)) := by
  obtain ⟨f, fd, Fu, gx, bd⟩ := T.fn_holds
  exact FnI.val2 (N := ["bits", "some"]) (fun p => [.im (D.int p.1), .im (D.int p.2.1)]) (fun _ => rfl) Fu gx ⟨rfl, rfl, rfl, by decide +kernel, rfl, by decide +kernel, by decide +kernel⟩ bd (fun _ => rfl) fun p => (ds_retV (by intro _; rfl) (dm_eq Eqs.int (DM.toN (dm_band (DP.toM (dp_var 0 (by rfl) (by exact .inl rfl) (by rfl))) (DP.toM (dp_var 1 (by rfl) (by exact .inl rfl) (by rfl))))) (DM.toN (DP.toM (dp_var 1 (by rfl) (by exact .inl rfl) (by rfl))))))
theorem f_first_wrong_lot (T : HF g C_Book C_Office) : FnI g 6 "first_wrong_lot" (spM g.K (aC D.int (aC (eT (eT D.int)) aN)) (eO D.int) (fun p => m_first_wrong_lot p.1 p.2.1)) := by
  obtain ⟨f, fd, Fu, gx, bd⟩ := T.fn_first_wrong_lot
  exact FnI.val2 (N := ["people", "lots", "found", "at", "lot", "bits", "other"]) (fun p => [.im (D.int p.1), .im ((eT (eT D.int)) p.2.1), .no, .no, .no, .no, .no]) (fun _ => rfl) Fu gx ⟨rfl, rfl, rfl, by decide +kernel, rfl, by decide +kernel, by decide +kernel⟩ bd (fun _ => rfl) fun p => (ds_setO 2 (by rfl) (by exact .inl rfl) (by exact .inl rfl) (do_lstH (enc := D.int) dh_nil) fun found1 => (ds_forR (ρl := (fun (z2 : (List Int)) => [.im (D.int p.1), .im ((eT (eT D.int)) p.2.1), .ow (List.map D.int z2), .no, .no, .no, .no])) (outR := outV (eO D.int)) (inj := (fun b => b)) (js := [3, 4]) (by intro _; rfl) (by intro _; rfl) (di_enumT (by rfl) T.n_enumerate (DP.toM (dp_var 1 (by rfl) (by exact .inl rfl) (by rfl)))) (dg_pair (dg_name 3 (by rfl) (by exact .inl rfl) (by exact .inl rfl)) (dg_name 4 (by rfl) (by exact .inl rfl) (by exact .inl rfl))) (.s (.s (.s (.n (.n (.n (.n .z))))))) (fun z2 x3 => (ds_ifR (outR := outV (eO D.int)) (inj := Sum.inr) (by intro _; rfl) (by intro _; rfl) (dtm_w (dwm_or (dtm_not (dtm_val (dm_c2 (f_is_lot T) (Nat.le_of_ble_eq_true rfl) (by rfl) (DP.toM (dp_var 0 (by rfl) (by exact .inl rfl) (by rfl))) (dm_up (DP.toM (dp_var 4 (by rfl) (by exact .inl rfl) (by rfl))))))) (dwm_or1 (dtm_w (dwm_and (dt_gt (DP.toM (dp_var 3 (by rfl) (by exact .inl rfl) (by rfl))) (DP.toM dp_int)) (dwm_and1 (dtm_not (dt_ltT (DM.toN (dm_ix (eA := (eT (eT D.int))) (g := fun xs => xs) (fun _ => rfl) (DM.toN (DP.toM (dp_var 1 (by rfl) (by exact .inl rfl) (by rfl)))) (DM.toN (dm_sub (DP.toM (dp_var 3 (by rfl) (by exact .inl rfl) (by rfl))) (DP.toM dp_int))))) (DM.toN (DP.toM (dp_var 4 (by rfl) (by exact .inl rfl) (by rfl)))))))))))) (ds_retV (by intro _; rfl) (dm_cast (e2 := (eO D.int)) some (fun _ => rfl) (DP.toM (dp_var 3 (by rfl) (by exact .inl rfl) (by rfl))))) (ds_set 5 (by rfl) (by exact .inr rfl) (by exact .inl rfl) (DM.toE (dm_c1 (f_bits_of T) (Nat.le_of_ble_eq_true rfl) (by rfl) (DP.toM (dp_var 4 (by rfl) (by exact .inl rfl) (by rfl))))) fun bits7 => (ds_ifR (outR := outV (eO D.int)) (inj := Sum.inr) (by intro _; rfl) (by intro _; rfl) (dtm_val (dm_any (by rfl) T.n_any (DM.toN (DO.toM (do_lc [("other", 6)] (by kernel_rfl) (di_own (db_own 2 (by rfl) (by exact .inl rfl) (by rfl))) (dg_name 6 (by rfl) (by exact .inl rfl) (by exact .inr rfl)) (by decide) (fun x9 => dq_nil) (fun x9 => (dm_or (dm_c2 (f_holds T) (Nat.le_of_ble_eq_true rfl) (by rfl) (DP.toM (dp_var 5 (by rfl) (by exact .inr (.inl rfl)) (by rfl))) (DP.toM (dp_var 6 (by rfl) (by exact .inl rfl) (by rfl)))) (dm_one (dm_c2 (f_holds T) (Nat.le_of_ble_eq_true rfl) (by rfl) (DP.toM (dp_var 6 (by rfl) (by exact .inl rfl) (by rfl))) (DP.toM (dp_var 5 (by rfl) (by exact .inr (.inl rfl)) (by rfl)))))))))))) (ds_retV (by intro _; rfl) (dm_cast (e2 := (eO D.int)) some (fun _ => rfl) (DP.toM (dp_var 3 (by rfl) (by exact .inl rfl) (by rfl))))) (ds_appendE 2 _ (g := fun z : Int => z) (by rfl) (by exact .inl rfl) (by rfl) (DM.toE (DP.toM (dp_var 5 (by rfl) (by exact .inr (.inl rfl)) (by rfl)))) (fun _ => (by rfl)) fun a14 => (ds_end (by rfl) (.s (.s (.s (.n (.n (.n (.n .z))))))))))))) fun z2 => (ds_retV (by intro _; rfl) (DP.toM (enc := (eO D.int)) (x := none) dp_non))))
theorem f_Book_keep (T : HF g C_Book C_Office) : MtI g 2 "Book" "keep" (spS g.K "Book" (fun _ => []) (aC D.int (aC (eT (eT D.int)) aN)) (fun _ r => f_Book r) (fun p => m_Book_keep p.1 p.2.1)) := by
  obtain ⟨f, fd, mt, Fu, bd⟩ := T.fn_Book_keep
  exact MtI.ofO2 (N := ["self", "people", "lots", "lot"]) (ρe := (fun _ b => [.oo (.ob true "Book" (f_Book b)), .no, .no, .no])) (fun p => [.oo (.ob true "Book" []), .im (D.int p.1), .im ((eT (eT D.int)) p.2.1), .no]) (fun _ => rfl) T.cm_Book mt Fu ⟨rfl, rfl, rfl, by decide +kernel, rfl, by decide +kernel, by decide +kernel⟩ bd (fun _ => rfl) (fun _ _ => rfl) fun p => (ds_setF 0 true "Book" _ (by rfl) (by exact .inl rfl) (by rfl) T.cm_Book T.na_Book_people (Nat.le_of_ble_eq_true rfl) (DP.toM (dp_var 1 (by rfl) (by exact .inl rfl) (by rfl))) fun people1 => (ds_setF 0 true "Book" _ (by rfl) (by exact .inl rfl) (by rfl) T.cm_Book T.na_Book_lots (Nat.le_of_ble_eq_true rfl) (DP.toM (dp_var 2 (by rfl) (by exact .inl rfl) (by rfl))) fun lots2 => (ds_setF 0 true "Book" _ (by rfl) (by exact .inl rfl) (by rfl) T.cm_Book T.na_Book_masks (Nat.le_of_ble_eq_true rfl) (DO.toM (do_lc [("lot", 3)] (by kernel_rfl) (di_tup (DP.toM (dp_var 2 (by rfl) (by exact .inl rfl) (by rfl)))) (dg_name 3 (by rfl) (by exact .inl rfl) (by exact .inr rfl)) (by decide) (fun x3 => dq_nil) (fun x3 => (dm_c1 (f_bits_of T) (Nat.le_of_ble_eq_true rfl) (by rfl) (DP.toM (dp_var 3 (by rfl) (by exact .inl rfl) (by rfl))))))) fun masks5 => (ds_end (by rfl) (.s (.n (.n (.n .z))))))))
theorem f_Book___init__ (T : HF g C_Book C_Office) : MkI g 7 "Book" (spS g.K "Book" (fun _ => []) (aC D.int (aC (eT (eT D.int)) aN)) (fun _ r => f_Book r) (fun p => m_Book___init__ p.1 p.2.1)) := by
  obtain ⟨f, fd, mk, gx, Fu, bd⟩ := T.fn_Book___init__
  exact MkI.of2 (N := ["self", "people", "lots", "at"]) (ρe := (fun _ b => [.oo (.ob true "Book" (f_Book b)), .no, .no, .no])) (fun p => [.oo (.ob true "Book" []), .im (D.int p.1), .im ((eT (eT D.int)) p.2.1), .no]) (fun _ => rfl) T.cm_Book mk gx Fu ⟨rfl, rfl, rfl, by decide +kernel, rfl, by decide +kernel, by decide +kernel⟩ bd (fun _ => rfl) (fun _ _ => rfl) fun p => (ds_ifStuck (dtm_not (dtm_val (dm_c3 (f_is_within T) (Nat.le_of_ble_eq_true rfl) (by rfl) (dm_up (DP.toM (dp_var 1 (by rfl) (by exact .inl rfl) (by rfl)))) (DP.toM dp_int) (DP.toM (dp_glob (by rfl) T.c_MOST_PEOPLE.choose_spec))))) (ds_ifStuck (dtm_w (dwm_or (dtm_not (dtm_val (dm_isi "tuple" (by decide) (by rfl) T.n_isinstance (by rfl) T.n_tuple b_tuple (DM.toN (DP.toM (dp_var 2 (by rfl) (by exact .inl rfl) (by rfl))))))) (dwm_or1 (dt_gt (dm_lenT (by rfl) T.n_len (DM.toN (DP.toM (dp_var 2 (by rfl) (by exact .inl rfl) (by rfl))))) (DP.toM (dp_glob (by rfl) T.c_MOST_LOTS.choose_spec)))))) (ds_set 3 (by rfl) (by exact .inl rfl) (by exact .inl rfl) (DM.toE (dm_c2 (f_first_wrong_lot T) (Nat.le_of_ble_eq_true rfl) (by rfl) (DP.toM (dp_var 1 (by rfl) (by exact .inl rfl) (by rfl))) (DP.toM (dp_var 2 (by rfl) (by exact .inl rfl) (by rfl))))) fun at_5 => (ds_ifStuck (dt_isnotN (DP.toM (dp_var 3 (by rfl) (by exact .inl rfl) (by rfl)))) (ds_me2 0 true "Book" _ (f_Book_keep T) (Nat.le_of_ble_eq_true rfl) (by rfl) (by exact .inl rfl) (by rfl) (fun _ => rfl) (by rfl) (DP.toM (dp_var 1 (by rfl) (by exact .inl rfl) (by rfl))) (DP.toM (dp_var 2 (by rfl) (by exact .inl rfl) (by rfl))) fun o10 => (ds_end (by rfl) (.s (.n (.n (.n .z))))))))))
theorem f_l_bits (T : HF g C_Book C_Office) : FnI g 1 "_law_bits" (spM g.K (aC (eT D.int) aN) D.int (fun p => m_l_bits p.1)) := by
  obtain ⟨f, fd, Fu, gx, bd⟩ := T.fn_l_bits
  exact FnI.val2 (N := ["_law_crowd_here", "_law_found", "_law_person"]) (fun p => [.im ((eT D.int) p.1), .no, .no]) (fun _ => rfl) Fu gx ⟨rfl, rfl, rfl, by decide +kernel, rfl, by decide +kernel, by decide +kernel⟩ bd (fun _ => rfl) fun p => (ds_set 1 (by rfl) (by exact .inl rfl) (by exact .inl rfl) (DM.toE (DP.toM dp_int)) fun found1 => (ds_forF (ρl := (fun (z2 : Int) => [.im ((eT D.int) p.1), .im (D.int z2), .no])) (js := [2]) (di_tup (DP.toM (dp_var 0 (by rfl) (by exact .inl rfl) (by rfl)))) (dg_name 2 (by rfl) (by exact .inl rfl) (by exact .inl rfl)) (.s (.s (.n .z))) (fun z2 x3 => (ds_set 1 (by rfl) (by exact .inl rfl) (by exact .inl rfl) (DM.toE (dm_add (DP.toM (dp_var 1 (by rfl) (by exact .inl rfl) (by rfl))) (dm_shl (DP.toM dp_int) (DP.toM (dp_var 2 (by rfl) (by exact .inl rfl) (by rfl)))))) fun found4 => (ds_end (by rfl) (.s (.s (.n .z)))))) fun z2 => (ds_retV (by intro _; rfl) (DP.toM (dp_var 1 (by rfl) (by exact .inl rfl) (by rfl))))))
theorem f_l_masks (T : HF g C_Book C_Office) : FnI g 2 "_law_masks" (spM g.K (aC (eT (eT D.int)) aN) (eL D.int) (fun p => m_l_masks p.1)) := by
  obtain ⟨f, fd, Fu, gx, bd⟩ := T.fn_l_masks
  exact FnI.val2 (N := ["_law_lots_here", "_law_lot"]) (fun p => [.im ((eT (eT D.int)) p.1), .no]) (fun _ => rfl) Fu gx ⟨rfl, rfl, rfl, by decide +kernel, rfl, by decide +kernel, by decide +kernel⟩ bd (fun _ => rfl) fun p => (ds_retV (by intro _; rfl) (DO.toM (do_lc [("_law_lot", 1)] (by kernel_rfl) (di_tup (DP.toM (dp_var 0 (by rfl) (by exact .inl rfl) (by rfl)))) (dg_name 1 (by rfl) (by exact .inl rfl) (by exact .inr rfl)) (by decide) (fun x1 => dq_nil) (fun x1 => (dm_c1 (f_l_bits T) (Nat.le_of_ble_eq_true rfl) (by rfl) (DP.toM (dp_var 1 (by rfl) (by exact .inl rfl) (by rfl))))))))
theorem f_check_person (T : HF g C_Book C_Office) : FnI g 3 "check_person" (spM g.K (aC D.int (aC D.int aN)) eU (fun p => m_check_person p.1 p.2.1)) := by
  obtain ⟨f, fd, Fu, gx, bd⟩ := T.fn_check_person
  exact FnI.proc2 (ρe := fun _ => [.no, .no]) (N := ["people", "thing"]) (fun p => [.im (D.int p.1), .im (D.int p.2.1)]) (fun _ => rfl) Fu gx ⟨rfl, rfl, rfl, by decide +kernel, rfl, by decide +kernel, by decide +kernel⟩ bd (fun _ => rfl) fun p => (ds_ifStuck (dtm_not (dtm_val (dm_c3 (f_is_within T) (Nat.le_of_ble_eq_true rfl) (by rfl) (dm_up (DP.toM (dp_var 1 (by rfl) (by exact .inl rfl) (by rfl)))) (DP.toM dp_int) (dm_sub (DP.toM (dp_var 0 (by rfl) (by exact .inl rfl) (by rfl))) (DP.toM dp_int))))) (ds_end (by rfl) (.n (.n .z))))
theorem f_lots_through (T : HF g C_Book C_Office) : FnI g 2 "lots_through" (spM g.K (aC e_Book (aC D.int (aC D.int aN))) (eL D.int) (fun p => m_lots_through p.1 p.2.1 p.2.2.1)) := by
  obtain ⟨f, fd, Fu, gx, bd⟩ := T.fn_lots_through
  exact FnI.val2 (N := ["book", "person", "ahead", "found", "number", "mask"]) (fun p => [.im (e_Book p.1), .im (D.int p.2.1), .im (D.int p.2.2.1), .no, .no, .no]) (fun _ => rfl) Fu gx ⟨rfl, rfl, rfl, by decide +kernel, rfl, by decide +kernel, by decide +kernel⟩ bd (fun _ => rfl) fun p => (ds_setO 3 (by rfl) (by exact .inl rfl) (by exact .inl rfl) (do_lstH (enc := D.int) dh_nil) fun found1 => (ds_forF (ρl := (fun (z2 : (List Int)) => [.im (e_Book p.1), .im (D.int p.2.1), .im (D.int p.2.2.1), .ow (List.map D.int z2), .no, .no])) (js := [4, 5]) (di_enumL (by rfl) T.n_enumerate (dm_fld (fs := f_Book) T.cm_Book (T.na_Book_masks) (fun _ => rfl) (fun _ => by rfl) (DP.toM (dp_var 0 (by rfl) (by exact .inl rfl) (by rfl))))) (dg_pair (dg_name 4 (by rfl) (by exact .inl rfl) (by exact .inl rfl)) (dg_name 5 (by rfl) (by exact .inl rfl) (by exact .inl rfl))) (.s (.s (.s (.s (.n (.n .z)))))) (fun z2 x3 => (ds_ifN (ρm := (fun (w6 : (List Int)) => [.im (e_Book p.1), .im (D.int p.2.1), .im (D.int p.2.2.1), .ow (List.map D.int w6), .im (D.int x3.1), .im (D.int x3.2)])) (dtm_w (dwm_and (dt_eq Eqs.int (DM.toN (dm_band (dm_shr (DP.toM (dp_var 5 (by rfl) (by exact .inl rfl) (by rfl))) (DP.toM (dp_var 1 (by rfl) (by exact .inl rfl) (by rfl)))) (DP.toM dp_int))) (DM.toN (DP.toM dp_int))) (dwm_and1 (dtm_val (dm_c2 (f_holds T) (Nat.le_of_ble_eq_true rfl) (by rfl) (DP.toM (dp_var 2 (by rfl) (by exact .inl rfl) (by rfl))) (dm_bxor (DP.toM (dp_var 5 (by rfl) (by exact .inl rfl) (by rfl))) (dm_shl (DP.toM dp_int) (DP.toM (dp_var 1 (by rfl) (by exact .inl rfl) (by rfl)))))))))) (ds_appendE 3 _ (g := fun z : Int => z) (by rfl) (by exact .inl rfl) (by rfl) (DM.toE (DP.toM (dp_var 4 (by rfl) (by exact .inl rfl) (by rfl)))) (fun _ => (by rfl)) fun a7 => (ds_end (by rfl) (.s (.s (.s (.s (.s (.s .z)))))))) (ds_end (by rfl) (.s (.s (.s (.s (.s (.s .z))))))) fun w6 => (ds_end (by rfl) (.s (.s (.s (.s (.n (.n .z))))))))) fun z2 => (ds_freeze 3 (by rfl) (ds_retV (by intro _; rfl) (DP.toM (dp_var 3 (by rfl) (by exact .inl rfl) (by rfl)))))))
theorem f_most_apart (T : HF g C_Book C_Office) : ∀ rN : Nat, FnI g (1 + rN) "most_apart" (spM g.K (aC (eL D.int) (aC D.int (aC D.int (aR aN)))) D.int (fun p => m_most_apart rN p.1 p.2.1 p.2.2.1)) := by
  obtain ⟨f, fd, Fu, gx, bd⟩ := T.fn_most_apart
  intro rN
  induction rN with
  | zero => exact (FnI.val2 (k := 0) (N := ["masks", "at", "used", "known", "best"]) (fun p => [.im ((eL D.int) p.1), .im (D.int p.2.1), .im (D.int p.2.2.1), .sr, .no]) (fun _ => rfl) Fu gx ⟨rfl, rfl, rfl, by decide +kernel, rfl, by decide +kernel, by decide +kernel⟩ bd (fun _ => rfl) fun p => ds_never).mono (Nat.le_of_ble_eq_true rfl)
  | succ rN rI => exact FnI.val2 (N := ["masks", "at", "used", "known", "best"]) (fun p => [.im ((eL D.int) p.1), .im (D.int p.2.1), .im (D.int p.2.2.1), .sr, .no]) (fun _ => rfl) Fu gx ⟨rfl, rfl, rfl, by decide +kernel, rfl, by decide +kernel, by decide +kernel⟩ bd (fun _ => rfl) fun p => (ds_ifR (outR := outV D.int) (inj := (fun b => b)) (by intro _; rfl) (by intro _; rfl) (dt_eq Eqs.int (DM.toN (DP.toM (dp_var 1 (by rfl) (by exact .inl rfl) (by rfl)))) (DM.toN (dm_lenL (by rfl) T.n_len (DM.toN (DP.toM (dp_var 0 (by rfl) (by exact .inl rfl) (by rfl))))))) (ds_retV (by intro _; rfl) (DP.toM dp_int)) (ds_ifN (ρm := (fun (w3 : Unit) => [.im ((eL D.int) p.1), .im (D.int p.2.1), .im (D.int p.2.2.1), .sr, .no])) (dt_snot 3 (Dsc.t (KkT.pair Kk.int Kk.int)) (by rfl) (by exact .inl rfl) (by rfl) (dm_tup2 (DP.toM (dp_var 1 (by rfl) (by exact .inl rfl) (by rfl))) (DP.toM (dp_var 2 (by rfl) (by exact .inl rfl) (by rfl))))) (ds_set 4 (by rfl) (by exact .inl rfl) (by exact .inl rfl) (DM.toE (dm_z3 3 (by rfl) (by exact .inl rfl) (by rfl) rI (Nat.le_refl _) (by rfl) (DP.toM (dp_var 0 (by rfl) (by exact .inl rfl) (by rfl))) (dm_add (DP.toM (dp_var 1 (by rfl) (by exact .inl rfl) (by rfl))) (DP.toM dp_int)) (DP.toM (dp_var 2 (by rfl) (by exact .inl rfl) (by rfl))))) fun best4 => (ds_ifN (ρm := (fun (w8 : Int) => [.im ((eL D.int) p.1), .im (D.int p.2.1), .im (D.int p.2.2.1), .sr, .im (D.int w8)])) (dt_eq Eqs.int (DM.toN (dm_band (dm_ix (eA := (eL D.int)) (g := fun xs => xs) (fun _ => rfl) (DM.toN (DP.toM (dp_var 0 (by rfl) (by exact .inl rfl) (by rfl)))) (DM.toN (DP.toM (dp_var 1 (by rfl) (by exact .inl rfl) (by rfl))))) (DP.toM (dp_var 2 (by rfl) (by exact .inl rfl) (by rfl))))) (DM.toN (DP.toM dp_int))) (ds_set 4 (by rfl) (by exact .inl rfl) (by exact .inl rfl) (DM.toE (dm_max2 (by rfl) T.n_max (DP.toM (dp_var 4 (by rfl) (by exact .inl rfl) (by rfl))) (dm_add (DP.toM dp_int) (dm_z3 3 (by rfl) (by exact .inl rfl) (by rfl) rI (Nat.le_refl _) (by rfl) (DP.toM (dp_var 0 (by rfl) (by exact .inl rfl) (by rfl))) (dm_add (DP.toM (dp_var 1 (by rfl) (by exact .inl rfl) (by rfl))) (DP.toM dp_int)) (dm_bor (DP.toM (dp_var 2 (by rfl) (by exact .inl rfl) (by rfl))) (dm_ix (eA := (eL D.int)) (g := fun xs => xs) (fun _ => rfl) (DM.toN (DP.toM (dp_var 0 (by rfl) (by exact .inl rfl) (by rfl)))) (DM.toN (DP.toM (dp_var 1 (by rfl) (by exact .inl rfl) (by rfl)))))))))) fun best9 => (ds_end (by rfl) (.s (.s (.s (.s (.s .z))))))) (ds_end (by rfl) (.s (.s (.s (.s (.s .z)))))) fun w8 => (ds_sput 3 (Dsc.t (KkT.pair Kk.int Kk.int)) (by rfl) (by exact .inl rfl) (by rfl) (DP.toM (dp_var 4 (by rfl) (by exact .inl rfl) (by rfl))) (dm_tup2 (DP.toM (dp_var 1 (by rfl) (by exact .inl rfl) (by rfl))) (DP.toM (dp_var 2 (by rfl) (by exact .inl rfl) (by rfl)))) (ds_end (by rfl) (.s (.s (.s (.s (.n .z))))))))) (ds_end (by rfl) (.s (.s (.s (.s (.n .z)))))) fun w3 => (ds_retV (by intro _; rfl) (dm_sget 3 (Dsc.t (KkT.pair Kk.int Kk.int)) (by rfl) (by exact .inl rfl) (by rfl) (dm_tup2 (DP.toM (dp_var 1 (by rfl) (by exact .inl rfl) (by rfl))) (DP.toM (dp_var 2 (by rfl) (by exact .inl rfl) (by rfl))))))))
theorem f_flower_in (T : HF g C_Book C_Office) : FnI g 64 "flower_in" (spM g.K (aC e_Book (aC D.int (aC D.int aN))) (eT (eT D.int)) (fun p => m_flower_in p.1 p.2.1 p.2.2.1)) := by
  obtain ⟨f, fd, Fu, gx, bd⟩ := T.fn_flower_in
  exact FnI.val2 (N := ["book", "person", "ahead", "numbers", "masks", "known", "used", "found", "at", "mask", "many", "number"]) (fun p => [.im (e_Book p.1), .im (D.int p.2.1), .im (D.int p.2.2.1), .no, .no, .no, .no, .no, .no, .no, .no, .no]) (fun _ => rfl) Fu gx ⟨rfl, rfl, rfl, by decide +kernel, rfl, by decide +kernel, by decide +kernel⟩ bd (fun _ => rfl) fun p => (ds_set 3 (by rfl) (by exact .inl rfl) (by exact .inl rfl) (DM.toE (dm_c3 (f_lots_through T) (Nat.le_of_ble_eq_true rfl) (by rfl) (DP.toM (dp_var 0 (by rfl) (by exact .inr (.inl rfl)) (by rfl))) (DP.toM (dp_var 1 (by rfl) (by exact .inr (.inl rfl)) (by rfl))) (DP.toM (dp_var 2 (by rfl) (by exact .inl rfl) (by rfl))))) fun numbers1 => (ds_setOA 4 (doa_lc 4 (by rfl) (by rfl) (by rfl) (by rfl) (by rfl) [("number", 11)] (by kernel_rfl) (di_lst (DP.toM (dp_var 3 (by rfl) (by exact .inl rfl) (by rfl)))) (dg_name 11 (by rfl) (by exact .inl rfl) (by exact .inr rfl)) (by decide) (fun x6 => dq_nil) (fun x6 => (dm_bxor (dm_ix (eA := (eL D.int)) (g := fun xs => xs) (fun _ => rfl) (DM.toN (dm_fld (fs := f_Book) T.cm_Book (T.na_Book_masks) (fun _ => rfl) (fun _ => by rfl) (DP.toM (dp_var 0 (by rfl) (by exact .inr (.inl rfl)) (by rfl))))) (DM.toN (DP.toM (dp_var 11 (by rfl) (by exact .inl rfl) (by rfl))))) (dm_shl (DP.toM dp_int) (DP.toM (dp_var 1 (by rfl) (by exact .inr (.inl rfl)) (by rfl))))))) fun masks5 => (ds_freeze 4 (by rfl) (ds_adoptK 5 true (by rfl) (by exact .inl rfl) (by exact .inl rfl) (ds_set 6 (by rfl) (by exact .inl rfl) (by exact .inl rfl) (DM.toE (DP.toM dp_int)) fun used8 => (ds_set 7 (by rfl) (by exact .inl rfl) (by exact .inl rfl) (DM.toE (dm_tupH (enc := (eT D.int)) dh_nil)) fun found9 => (ds_forF (ρl := (fun (z10 : ((List (List Int)) × Int)) => [.im (e_Book p.1), .im (D.int p.2.1), .im (D.int p.2.2.1), .im ((eL D.int) numbers1), .im ((eL D.int) masks5), .sr, .im (D.int z10.2), .im ((eT (eT D.int)) z10.1), .no, .no, .no, .no])) (js := [8, 9]) (di_enumL (by rfl) T.n_enumerate (DP.toM (dp_var 4 (by rfl) (by exact .inl rfl) (by rfl)))) (dg_pair (dg_name 8 (by rfl) (by exact .inl rfl) (by exact .inl rfl)) (dg_name 9 (by rfl) (by exact .inl rfl) (by exact .inl rfl))) (.s (.s (.s (.s (.s (.s (.s (.s (.n (.n (.n (.n .z)))))))))))) (fun z10 x11 => (ds_ifN (ρm := (fun (w12 : ((List (List Int)) × Int)) => [.im (e_Book p.1), .im (D.int p.2.1), .im (D.int p.2.2.1), .im ((eL D.int) numbers1), .im ((eL D.int) masks5), .sr, .im (D.int w12.2), .im ((eT (eT D.int)) w12.1), .im (D.int x11.1), .im (D.int x11.2), .no, .no])) (dt_eq Eqs.int (DM.toN (dm_band (DP.toM (dp_var 9 (by rfl) (by exact .inl rfl) (by rfl))) (DP.toM (dp_var 6 (by rfl) (by exact .inl rfl) (by rfl))))) (DM.toN (DP.toM dp_int))) (ds_set 10 (by rfl) (by exact .inl rfl) (by exact .inl rfl) (DM.toE (dm_add (DP.toM dp_int) (dm_z3 5 (by rfl) (by exact .inl rfl) (by rfl) (f_most_apart T 62) (Nat.le_of_ble_eq_true rfl) (by rfl) (DP.toM (dp_var 4 (by rfl) (by exact .inl rfl) (by rfl))) (dm_add (DP.toM (dp_var 8 (by rfl) (by exact .inl rfl) (by rfl))) (DP.toM dp_int)) (dm_bor (DP.toM (dp_var 6 (by rfl) (by exact .inl rfl) (by rfl))) (DP.toM (dp_var 9 (by rfl) (by exact .inl rfl) (by rfl))))))) fun many13 => (ds_ifN (ρm := (fun (w20 : ((List (List Int)) × Int)) => [.im (e_Book p.1), .im (D.int p.2.1), .im (D.int p.2.2.1), .im ((eL D.int) numbers1), .im ((eL D.int) masks5), .sr, .im (D.int w20.2), .im ((eT (eT D.int)) w20.1), .im (D.int x11.1), .im (D.int x11.2), .im (D.int many13), .no])) (dt_eq Eqs.int (DM.toN (DP.toM (dp_var 10 (by rfl) (by exact .inl rfl) (by rfl)))) (DM.toN (dm_z3 5 (by rfl) (by exact .inl rfl) (by rfl) (f_most_apart T 62) (Nat.le_of_ble_eq_true rfl) (by rfl) (DP.toM (dp_var 4 (by rfl) (by exact .inl rfl) (by rfl))) (DP.toM (dp_var 8 (by rfl) (by exact .inl rfl) (by rfl))) (DP.toM (dp_var 6 (by rfl) (by exact .inl rfl) (by rfl)))))) (ds_set 7 (by rfl) (by exact .inl rfl) (by exact .inl rfl) (DM.toE (dm_catT (DP.toM (dp_var 7 (by rfl) (by exact .inl rfl) (by rfl))) (dm_tupH (enc := (eT D.int)) (dh_cons (dm_ix (eA := (eT (eT D.int))) (g := fun xs => xs) (fun _ => rfl) (DM.toN (dm_fld (fs := f_Book) T.cm_Book (T.na_Book_lots) (fun _ => rfl) (fun _ => by rfl) (DP.toM (dp_var 0 (by rfl) (by exact .inr (.inl rfl)) (by rfl))))) (DM.toN (dm_ix (eA := (eL D.int)) (g := fun xs => xs) (fun _ => rfl) (DM.toN (DP.toM (dp_var 3 (by rfl) (by exact .inl rfl) (by rfl)))) (DM.toN (DP.toM (dp_var 8 (by rfl) (by exact .inl rfl) (by rfl))))))) dh_nil)))) fun found21 => (ds_set 6 (by rfl) (by exact .inl rfl) (by exact .inl rfl) (DM.toE (dm_bor (DP.toM (dp_var 6 (by rfl) (by exact .inl rfl) (by rfl))) (DP.toM (dp_var 9 (by rfl) (by exact .inl rfl) (by rfl))))) fun used22 => (ds_end (by rfl) (.s (.s (.s (.s (.s (.s (.s (.s (.s (.s (.s (.n .z))))))))))))))) (ds_end (by rfl) (.s (.s (.s (.s (.s (.s (.s (.s (.s (.s (.s (.n .z))))))))))))) fun w20 => (ds_end (by rfl) (.s (.s (.s (.s (.s (.s (.s (.s (.s (.s (.n (.n .z))))))))))))))) (ds_end (by rfl) (.s (.s (.s (.s (.s (.s (.s (.s (.s (.s (.n (.n .z))))))))))))) fun w12 => (ds_end (by rfl) (.s (.s (.s (.s (.s (.s (.s (.s (.n (.n (.n (.n .z))))))))))))))) fun z10 => (ds_retV (by intro _; rfl) (DP.toM (dp_var 7 (by rfl) (by exact .inl rfl) (by rfl))))))) (noSr_of (by rfl)) (by intro g; exact True.intro)))))
theorem f_ahead_of (T : HF g C_Book C_Office) : FnI g 2 "ahead_of" (spM g.K (aC e_Office (aC D.int aN)) D.int (fun p => m_ahead_of p.1 p.2.1)) := by
  obtain ⟨f, fd, Fu, gx, bd⟩ := T.fn_ahead_of
  exact FnI.val2 (N := ["office", "person"]) (fun p => [.im (e_Office p.1), .im (D.int p.2.1)]) (fun _ => rfl) Fu gx ⟨rfl, rfl, rfl, by decide +kernel, rfl, by decide +kernel, by decide +kernel⟩ bd (fun _ => rfl) fun p => (ds_retV (by intro _; rfl) (dm_c1 (f_bits_of T) (Nat.le_of_ble_eq_true rfl) (by rfl) (dm_sliceN (dm_fld (fs := f_Office) T.cm_Office (T.na_Office_order) (fun _ => rfl) (fun _ => by rfl) (DP.toM (dp_var 0 (by rfl) (by exact .inl rfl) (by rfl)))) pt_none (pt_some (dm_idxN (dm_fld (fs := f_Office) T.cm_Office (T.na_Office_order) (fun _ => rfl) (fun _ => by rfl) (DP.toM (dp_var 0 (by rfl) (by exact .inl rfl) (by rfl)))) (DP.toM (dp_var 1 (by rfl) (by exact .inl rfl) (by rfl))))))))
theorem f_longest_out (T : HF g C_Book C_Office) : FnI g 65 "longest_out" (spM g.K (aC e_Office (aC D.int aN)) (eT (eT D.int)) (fun p => m_longest_out p.1 p.2.1)) := by
  obtain ⟨f, fd, Fu, gx, bd⟩ := T.fn_longest_out
  exact FnI.val2 (N := ["office", "person"]) (fun p => [.im (e_Office p.1), .im (D.int p.2.1)]) (fun _ => rfl) Fu gx ⟨rfl, rfl, rfl, by decide +kernel, rfl, by decide +kernel, by decide +kernel⟩ bd (fun _ => rfl) fun p => (ds_expr (dm_c2 (f_check_person T) (Nat.le_of_ble_eq_true rfl) (by rfl) (dm_fld (fs := f_Book) T.cm_Book (T.na_Book_people) (fun _ => rfl) (fun _ => by rfl) (dm_fld (fs := f_Office) T.cm_Office (T.na_Office_book) (fun _ => rfl) (fun _ => by rfl) (DP.toM (dp_var 0 (by rfl) (by exact .inl rfl) (by rfl))))) (DP.toM (dp_var 1 (by rfl) (by exact .inl rfl) (by rfl)))) fun _ => (ds_retV (by intro _; rfl) (dm_n3 (f_flower_in T) (Nat.le_of_ble_eq_true rfl) (by rfl) (dm_fld (fs := f_Office) T.cm_Office (T.na_Office_book) (fun _ => rfl) (fun _ => by rfl) (DP.toM (dp_var 0 (by rfl) (by exact .inl rfl) (by rfl)))) (DP.toM (dp_var 1 (by rfl) (by exact .inl rfl) (by rfl))) (dm_c2 (f_ahead_of T) (Nat.le_of_ble_eq_true rfl) (by rfl) (DP.toM (dp_var 0 (by rfl) (by exact .inl rfl) (by rfl))) (DP.toM (dp_var 1 (by rfl) (by exact .inl rfl) (by rfl)))))))
theorem f_l_let (T : HF g C_Book C_Office) : FnI g 1 "_law_let" (spM g.K (aC (eL D.int) (aC (eN D.int) (aC D.int aN))) D.int (fun p => m_l_let p.1 p.2.1 p.2.2.1)) := by
  obtain ⟨f, fd, Fu, gx, bd⟩ := T.fn_l_let
  exact FnI.val2 (N := ["_law_masks_here", "_law_order_here", "_law_bits_here", "_law_found", "_law_person", "_law_one", "_law_barred", "_law_mask"]) (fun p => [.im ((eL D.int) p.1), .im ((eN D.int) p.2.1), .im (D.int p.2.2.1), .no, .no, .no, .no, .no]) (fun _ => rfl) Fu gx ⟨rfl, rfl, rfl, by decide +kernel, rfl, by decide +kernel, by decide +kernel⟩ bd (fun _ => rfl) fun p => (ds_set 3 (by rfl) (by exact .inr rfl) (by exact .inl rfl) (DM.toE (DP.toM dp_int)) fun found1 => (ds_forF (ρl := (fun (z2 : Int) => [.im ((eL D.int) p.1), .im ((eN D.int) p.2.1), .im (D.int p.2.2.1), .im (D.int z2), .no, .no, .no, .no])) (js := [4]) (di_tupN (DP.toM (dp_var 1 (by rfl) (by exact .inl rfl) (by rfl)))) (dg_name 4 (by rfl) (by exact .inl rfl) (by exact .inl rfl)) (.s (.s (.s (.s (.n (.n (.n (.n .z)))))))) (fun z2 x3 => (ds_set 5 (by rfl) (by exact .inr rfl) (by exact .inl rfl) (DM.toE (dm_shl (DP.toM dp_int) (DP.toM (dp_var 4 (by rfl) (by exact .inl rfl) (by rfl))))) fun one_4 => (ds_ifN (ρm := (fun (w5 : Int) => [.im ((eL D.int) p.1), .im ((eN D.int) p.2.1), .im (D.int p.2.2.1), .im (D.int w5), .im (D.int x3), .im (D.int one_4), .no, .no])) (dt_gt (dm_band (DP.toM (dp_var 2 (by rfl) (by exact .inl rfl) (by rfl))) (DP.toM (dp_var 5 (by rfl) (by exact .inr (.inl rfl)) (by rfl)))) (DP.toM dp_int)) (ds_setOA 6 (doa_lc 6 (by rfl) (by rfl) (by rfl) (by rfl) (by rfl) [("_law_mask", 7)] (by kernel_rfl) (di_lst (DP.toM (dp_var 0 (by rfl) (by exact .inl rfl) (by rfl)))) (dg_name 7 (by rfl) (by exact .inl rfl) (by exact .inr rfl)) (by decide) (fun x7 => (dq_one (dtm_w (dwm_and (dt_gt (dm_band (DP.toM (dp_var 7 (by rfl) (by exact .inl rfl) (by rfl))) (DP.toM (dp_var 5 (by rfl) (by exact .inr (.inl rfl)) (by rfl)))) (DP.toM dp_int)) (dwm_and1 (dt_eq Eqs.int (DM.toN (dm_band (dm_bor (DP.toM (dp_var 3 (by rfl) (by exact .inr (.inl rfl)) (by rfl))) (DP.toM (dp_var 5 (by rfl) (by exact .inr (.inl rfl)) (by rfl)))) (DP.toM (dp_var 7 (by rfl) (by exact .inl rfl) (by rfl))))) (DM.toN (DP.toM (dp_var 7 (by rfl) (by exact .inl rfl) (by rfl)))))))))) (fun x7 => (DP.toM (dp_var 7 (by rfl) (by exact .inl rfl) (by rfl))))) fun barred6 => (ds_freeze 6 (by rfl) (ds_ifN (ρm := (fun (w8 : Int) => [.im ((eL D.int) p.1), .im ((eN D.int) p.2.1), .im (D.int p.2.2.1), .im (D.int w8), .im (D.int x3), .im (D.int one_4), .im ((eL D.int) barred6), .no])) (dt_eq Eqs.int (DM.toN (dm_lenL (by rfl) T.n_len (DM.toN (DP.toM (dp_var 6 (by rfl) (by exact .inl rfl) (by rfl)))))) (DM.toN (DP.toM dp_int))) (ds_set 3 (by rfl) (by exact .inr rfl) (by exact .inl rfl) (DM.toE (dm_bor (DP.toM (dp_var 3 (by rfl) (by exact .inr (.inl rfl)) (by rfl))) (DP.toM (dp_var 5 (by rfl) (by exact .inr (.inl rfl)) (by rfl))))) fun found9 => (ds_end (by rfl) (.s (.s (.s (.s (.s (.s (.s (.n .z)))))))))) (ds_end (by rfl) (.s (.s (.s (.s (.s (.s (.s (.n .z))))))))) fun w8 => (ds_end (by rfl) (.s (.s (.s (.s (.s (.s (.n (.n .z)))))))))))) (ds_end (by rfl) (.s (.s (.s (.s (.s (.s (.n (.n .z))))))))) fun w5 => (ds_end (by rfl) (.s (.s (.s (.s (.n (.n (.n (.n .z)))))))))))) fun z2 => (ds_retV (by intro _; rfl) (DP.toM (dp_var 3 (by rfl) (by exact .inr (.inl rfl)) (by rfl))))))
theorem f_l_crowd (T : HF g C_Book C_Office) : FnI g 1 "_law_crowd" (spM g.K (aC D.int aN) (eT D.int) (fun p => m_l_crowd p.1)) := by
  obtain ⟨f, fd, Fu, gx, bd⟩ := T.fn_l_crowd
  exact FnI.val2 (N := ["_law_bits_here", "_law_person"]) (fun p => [.im (D.int p.1), .no]) (fun _ => rfl) Fu gx ⟨rfl, rfl, rfl, by decide +kernel, rfl, by decide +kernel, by decide +kernel⟩ bd (fun _ => rfl) fun p => (ds_retV (by intro _; rfl) (dm_tupL (by rfl) T.n_tuple (DM.toN (DO.toM (do_lc [("_law_person", 1)] (by kernel_rfl) (di_range1 (by rfl) T.n_range (DP.toM dp_int)) (dg_name 1 (by rfl) (by exact .inl rfl) (by exact .inr rfl)) (by decide) (fun x1 => (dq_one (dt_eq Eqs.int (DM.toN (dm_mod (dm_toInt (by rfl) T.n_int (DM.toN (dm_shr (DP.toM (dp_var 0 (by rfl) (by exact .inr (.inl rfl)) (by rfl))) (DP.toM (dp_var 1 (by rfl) (by exact .inl rfl) (by rfl)))))) (DP.toM dp_int))) (DM.toN (DP.toM dp_int))))) (fun x1 => (DP.toM (dp_var 1 (by rfl) (by exact .inl rfl) (by rfl)))))))))
theorem f_l_next (T : HF g C_Book C_Office) : FnI g 2 "_law_next" (spM g.K (aC (eL D.int) (aC (eN D.int) (aC D.int aN))) (eN D.int) (fun p => m_l_next p.1 p.2.1 p.2.2.1)) := by
  obtain ⟨f, fd, Fu, gx, bd⟩ := T.fn_l_next
  exact FnI.val2 (N := ["_law_masks_here", "_law_order_here", "_law_bits_here", "_law_inside", "_law_ahead", "_law_person"]) (fun p => [.im ((eL D.int) p.1), .im ((eN D.int) p.2.1), .im (D.int p.2.2.1), .no, .no, .no]) (fun _ => rfl) Fu gx ⟨rfl, rfl, rfl, by decide +kernel, rfl, by decide +kernel, by decide +kernel⟩ bd (fun _ => rfl) fun p => (ds_set 3 (by rfl) (by exact .inr rfl) (by exact .inl rfl) (DM.toE (dm_c3 (f_l_let T) (Nat.le_of_ble_eq_true rfl) (by rfl) (DP.toM (dp_var 0 (by rfl) (by exact .inl rfl) (by rfl))) (DP.toM (dp_var 1 (by rfl) (by exact .inl rfl) (by rfl))) (DP.toM (dp_var 2 (by rfl) (by exact .inl rfl) (by rfl))))) fun inside1 => (ds_set 4 (by rfl) (by exact .inl rfl) (by exact .inl rfl) (DM.toE (dm_tupN (by rfl) T.n_tuple (DM.toN (DO.toM (do_lc [("_law_person", 5)] (by kernel_rfl) (di_tupN (DP.toM (dp_var 1 (by rfl) (by exact .inl rfl) (by rfl)))) (dg_name 5 (by rfl) (by exact .inl rfl) (by exact .inr rfl)) (by decide) (fun x6 => (dq_one (dt_eq Eqs.int (DM.toN (dm_mod (dm_toInt (by rfl) T.n_int (DM.toN (dm_shr (DP.toM (dp_var 3 (by rfl) (by exact .inr (.inl rfl)) (by rfl))) (DP.toM (dp_var 5 (by rfl) (by exact .inl rfl) (by rfl)))))) (DP.toM dp_int))) (DM.toN (DP.toM dp_int))))) (fun x6 => (DP.toM (dp_var 5 (by rfl) (by exact .inl rfl) (by rfl))))))))) fun ahead5 => (ds_retV (by intro _; rfl) (dm_catN (DP.toM (dp_var 4 (by rfl) (by exact .inl rfl) (by rfl))) (dm_tupN (by rfl) T.n_tuple (DM.toN (DO.toM (do_lc [("_law_person", 5)] (by kernel_rfl) (di_tupN (DP.toM (dp_var 1 (by rfl) (by exact .inl rfl) (by rfl)))) (dg_name 5 (by rfl) (by exact .inl rfl) (by exact .inr rfl)) (by decide) (fun x7 => (dq_one (dt_eq Eqs.int (DM.toN (dm_mod (dm_toInt (by rfl) T.n_int (DM.toN (dm_shr (DP.toM (dp_var 3 (by rfl) (by exact .inr (.inl rfl)) (by rfl))) (DP.toM (dp_var 5 (by rfl) (by exact .inl rfl) (by rfl)))))) (DP.toM dp_int))) (DM.toN (DP.toM dp_int))))) (fun x7 => (DP.toM (dp_var 5 (by rfl) (by exact .inl rfl) (by rfl))))))))))))
theorem f_l_led (T : HF g C_Book C_Office) : FnI g 3 "_law_led" (spM g.K (aR (aC (eL D.int) (aC (eN D.int) (aC D.int (aC D.int aN))))) (eT (eT D.int)) (fun p => m_l_led p.1 p.2.1 p.2.2.1 p.2.2.2.1)) := by
  obtain ⟨f, fd, Fu, gx, bd⟩ := T.fn_l_led
  exact FnI.val2 (N := ["_law_hand_here", "_law_masks_here", "_law_order_here", "_law_people_here", "_law_person", "_law_found", "_law_turn", "_law_bits_here"]) (fun p => [.sr, .im ((eL D.int) p.1), .im ((eN D.int) p.2.1), .im (D.int p.2.2.1), .im (D.int p.2.2.2.1), .no, .no, .no]) (fun _ => rfl) Fu gx ⟨rfl, rfl, rfl, by decide +kernel, rfl, by decide +kernel, by decide +kernel⟩ bd (fun _ => rfl) fun p => (ds_set 5 (by rfl) (by exact .inl rfl) (by exact .inl rfl) (DM.toE (dm_tupH (enc := (eT D.int)) dh_nil)) fun found1 => (ds_forF (ρl := (fun (z2 : ((List (List Int)) × (List Int))) => [.sr, .im ((eL D.int) p.1), .im ((eN D.int) z2.2), .im (D.int p.2.2.1), .im (D.int p.2.2.2.1), .im ((eT (eT D.int)) z2.1), .no, .no])) (js := [6]) (di_range1 (by rfl) T.n_range (DP.toM dp_int)) (dg_name 6 (by rfl) (by exact .inl rfl) (by exact .inl rfl)) (.s (.s (.s (.s (.s (.s (.n (.n .z)))))))) (fun z2 x3 => (ds_set 7 (by rfl) (by exact .inl rfl) (by exact .inl rfl) (DM.toE (dm_bor (dm_s1 0 (by rfl) (by exact .inl rfl) (by rfl) (f_l_draw T) (Nat.le_of_ble_eq_true rfl) (by rfl) (dm_shl (DP.toM dp_int) (DP.toM (dp_var 3 (by rfl) (by exact .inl rfl) (by rfl))))) (dm_shl (DP.toM dp_int) (DP.toM (dp_var 4 (by rfl) (by exact .inl rfl) (by rfl)))))) fun bits_here4 => (ds_ifN (ρm := (fun (w9 : ((List (List Int)) × (List Int))) => [.sr, .im ((eL D.int) p.1), .im ((eN D.int) w9.2), .im (D.int p.2.2.1), .im (D.int p.2.2.2.1), .im ((eT (eT D.int)) w9.1), .im (D.int x3), .im (D.int bits_here4)])) (dt_eq Eqs.int (DM.toN (dm_mod (dm_toInt (by rfl) T.n_int (DM.toN (dm_shr (dm_c3 (f_l_let T) (Nat.le_of_ble_eq_true rfl) (by rfl) (DP.toM (dp_var 1 (by rfl) (by exact .inl rfl) (by rfl))) (DP.toM (dp_var 2 (by rfl) (by exact .inl rfl) (by rfl))) (DP.toM (dp_var 7 (by rfl) (by exact .inl rfl) (by rfl)))) (DP.toM (dp_var 4 (by rfl) (by exact .inl rfl) (by rfl)))))) (DP.toM dp_int))) (DM.toN (DP.toM dp_int))) (ds_set 5 (by rfl) (by exact .inl rfl) (by exact .inl rfl) (DM.toE (dm_catT (DP.toM (dp_var 5 (by rfl) (by exact .inl rfl) (by rfl))) (dm_tupH (enc := (eT D.int)) (dh_cons (dm_c1 (f_l_crowd T) (Nat.le_of_ble_eq_true rfl) (by rfl) (DP.toM (dp_var 7 (by rfl) (by exact .inl rfl) (by rfl)))) dh_nil)))) fun found10 => (ds_set 2 (by rfl) (by exact .inl rfl) (by exact .inl rfl) (DM.toE (dm_c3 (f_l_next T) (Nat.le_of_ble_eq_true rfl) (by rfl) (DP.toM (dp_var 1 (by rfl) (by exact .inl rfl) (by rfl))) (DP.toM (dp_var 2 (by rfl) (by exact .inl rfl) (by rfl))) (DP.toM (dp_var 7 (by rfl) (by exact .inl rfl) (by rfl))))) fun order_here12 => (ds_end (by rfl) (.s (.s (.s (.s (.s (.s (.s (.s .z))))))))))) (ds_end (by rfl) (.s (.s (.s (.s (.s (.s (.s (.s .z))))))))) fun w9 => (ds_end (by rfl) (.s (.s (.s (.s (.s (.s (.n (.n .z)))))))))))) fun z2 => (ds_retV (by intro _; rfl) (DP.toM (dp_var 5 (by rfl) (by exact .inl rfl) (by rfl))))))
theorem f_l_odd (T : HF g C_Book C_Office) : FnI g 2 "_law_odd" (spM g.K (aR (aC D.int aN)) eId (fun p => m_l_odd p.1)) := by
  obtain ⟨f, fd, Fu, gx, bd⟩ := T.fn_l_odd
  exact FnI.val2 (N := ["_law_hand_here", "_law_people_here", "_law_odd_here"]) (fun p => [.sr, .im (D.int p.1), .no]) (fun _ => rfl) Fu gx ⟨rfl, rfl, rfl, by decide +kernel, rfl, by decide +kernel, by decide +kernel⟩ bd (fun _ => rfl) fun p => (ds_set 2 (by rfl) (by exact .inl rfl) (by exact .inl rfl) (DM.toE (DO.toM (do_lstH (enc := eId) (dh_cons (dm_up (DP.toM (dp_var 1 (by rfl) (by exact .inl rfl) (by rfl)))) (dh_cons (dm_up (dm_neg (DP.toM dp_int))) (dh_cons (DP.toM dp_non) (dh_cons (DP.toM dp_bl) (dh_cons (DP.toM dp_bl) (dh_cons (DP.toM dp_str) (dh_cons (dm_up (dm_tupH (enc := D.int) (dh_cons (DP.toM dp_int) dh_nil))) (dh_cons (dm_up (DO.toM (do_lstH (enc := D.int) (dh_cons (DP.toM dp_int) dh_nil)))) (dh_cons (dm_up (dm_pow (DP.toM dp_int) (DP.toM dp_int))) (dh_cons (DP.toM dp_int) (dh_cons dp_dnew dh_nil)))))))))))))) fun odd_here1 => (ds_retV (by intro _; rfl) (dm_ix (eA := (eL eId)) (g := fun xs => xs) (fun _ => rfl) (DM.toN (DP.toM (dp_var 2 (by rfl) (by exact .inl rfl) (by rfl)))) (DM.toN (dm_s1 0 (by rfl) (by exact .inl rfl) (by rfl) (f_l_draw T) (Nat.le_of_ble_eq_true rfl) (by rfl) (DP.toM dp_int))))))
theorem f_l_deep (T : HF g C_Book C_Office) : FnI g 2 "_law_deep" (spM g.K (aR aN) eId (fun _ => m_l_deep)) := by
  obtain ⟨f, fd, Fu, gx, bd⟩ := T.fn_l_deep
  exact FnI.val2 (N := ["_law_hand_here", "_law_found", "_law_turn"]) (fun p => [.sr, .no, .no]) (fun _ => rfl) Fu gx ⟨rfl, rfl, rfl, by decide +kernel, rfl, by decide +kernel, by decide +kernel⟩ bd (fun _ => rfl) fun p => (ds_set 1 (by rfl) (by exact .inl rfl) (by exact .inl rfl) (DM.toE (dm_ix (eA := (eL eId)) (g := fun xs => xs) (fun _ => rfl) (DM.toN (DO.toM (do_lstH (enc := eId) (dh_cons (DP.toM dp_non) (dh_cons (DP.toM dp_str) (dh_cons (dm_up (dm_neg (DP.toM dp_int))) (dh_cons dp_dnew dh_nil))))))) (DM.toN (dm_s1 0 (by rfl) (by exact .inl rfl) (by rfl) (f_l_draw T) (Nat.le_of_ble_eq_true rfl) (by rfl) (DP.toM dp_int))))) fun found1 => (ds_forF (ρl := (fun (z5 : D) => [.sr, .im (eId z5), .no])) (js := [2]) (di_range1 (by rfl) T.n_range (dm_add (DP.toM dp_int) (dm_s1 0 (by rfl) (by exact .inl rfl) (by rfl) (f_l_draw T) (Nat.le_of_ble_eq_true rfl) (by rfl) (DP.toM dp_int)))) (dg_name 2 (by rfl) (by exact .inl rfl) (by exact .inl rfl)) (.s (.s (.n .z))) (fun z5 x6 => (ds_set 1 (by rfl) (by exact .inl rfl) (by exact .inl rfl) (DM.toE (dm_ix (eA := (eL eId)) (g := fun xs => xs) (fun _ => rfl) (DM.toN (DO.toM (do_lstH (enc := eId) (dh_cons (dm_up (dm_tupH (enc := eId) (dh_cons (DP.toM (dp_var 1 (by rfl) (by exact .inl rfl) (by rfl))) dh_nil))) (dh_cons (dm_up (DO.toM (do_lstH (enc := eId) (dh_cons (DP.toM (dp_var 1 (by rfl) (by exact .inl rfl) (by rfl))) dh_nil)))) (dh_cons (dm_up (dm_sliceT (dm_tupH (enc := eId) (dh_cons (DP.toM (dp_var 1 (by rfl) (by exact .inl rfl) (by rfl))) (dh_cons (DP.toM (dp_var 1 (by rfl) (by exact .inl rfl) (by rfl))) dh_nil))) pt_none (pt_some (DP.toM dp_int)))) (dh_cons (dm_up (dm_cast (e2 := (eDk D.int eId)) (fun z => [z]) (fun _ => rfl) (dm_disp1 Kk.int (DP.toM dp_int) (DP.toM (dp_var 1 (by rfl) (by exact .inl rfl) (by rfl)))))) dh_nil))))))) (DM.toN (dm_s1 0 (by rfl) (by exact .inl rfl) (by rfl) (f_l_draw T) (Nat.le_of_ble_eq_true rfl) (by rfl) (DP.toM dp_int))))) fun found7 => (ds_end (by rfl) (.s (.s (.n .z)))))) fun z5 => (ds_retV (by intro _; rfl) (DP.toM (dp_var 1 (by rfl) (by exact .inl rfl) (by rfl))))))
theorem f_l_crowd_bent (T : HF g C_Book C_Office) : FnI g 3 "_law_crowd_bent" (spM g.K (aR (aC D.int (aC (eT D.int) aN))) eId (fun p => m_l_crowd_bent p.1 p.2.1)) := by
  obtain ⟨f, fd, Fu, gx, bd⟩ := T.fn_l_crowd_bent
  exact FnI.val2 (N := ["_law_hand_here", "_law_people_here", "_law_crowd_here", "_law_kind", "_law_at"]) (fun p => [.sr, .im (D.int p.1), .im ((eT D.int) p.2.1), .no, .no]) (fun _ => rfl) Fu gx ⟨rfl, rfl, rfl, by decide +kernel, rfl, by decide +kernel, by decide +kernel⟩ bd (fun _ => rfl) fun p => (ds_set 3 (by rfl) (by exact .inl rfl) (by exact .inl rfl) (DM.toE (dm_s1 0 (by rfl) (by exact .inl rfl) (by rfl) (f_l_draw T) (Nat.le_of_ble_eq_true rfl) (by rfl) (DP.toM dp_int))) fun kind1 => (ds_set 4 (by rfl) (by exact .inl rfl) (by exact .inl rfl) (DM.toE (dm_s1 0 (by rfl) (by exact .inl rfl) (by rfl) (f_l_draw T) (Nat.le_of_ble_eq_true rfl) (by rfl) (dm_add (dm_lenT (by rfl) T.n_len (DM.toN (DP.toM (dp_var 2 (by rfl) (by exact .inl rfl) (by rfl))))) (DP.toM dp_int)))) fun at_3 => (ds_ifR (outR := outV eId) (inj := (fun b => b)) (by intro _; rfl) (by intro _; rfl) (dt_lt (DP.toM (dp_var 3 (by rfl) (by exact .inl rfl) (by rfl))) (DP.toM dp_int)) (ds_retV (by intro _; rfl) (dm_up (dm_catT (dm_catT (dm_cast (List.map D.int) up_tup (dm_sliceT (DP.toM (dp_var 2 (by rfl) (by exact .inl rfl) (by rfl))) pt_none (pt_some (DP.toM (dp_var 4 (by rfl) (by exact .inl rfl) (by rfl)))))) (dm_tupH (enc := eId) (dh_cons (dm_s1 0 (by rfl) (by exact .inl rfl) (by rfl) (f_l_odd T) (Nat.le_of_ble_eq_true rfl) (by rfl) (DP.toM (dp_var 1 (by rfl) (by exact .inl rfl) (by rfl)))) dh_nil))) (dm_cast (List.map D.int) up_tup (dm_sliceT (DP.toM (dp_var 2 (by rfl) (by exact .inl rfl) (by rfl))) (pt_some (DP.toM (dp_var 4 (by rfl) (by exact .inl rfl) (by rfl)))) pt_none))))) (ds_ifR (outR := outV eId) (inj := (fun b => b)) (by intro _; rfl) (by intro _; rfl) (dt_eq Eqs.int (DM.toN (DP.toM (dp_var 3 (by rfl) (by exact .inl rfl) (by rfl)))) (DM.toN (DP.toM dp_int))) (ds_retV (by intro _; rfl) (dm_up (dm_catT (dm_catT (dm_cast (List.map D.int) up_tup (dm_sliceT (DP.toM (dp_var 2 (by rfl) (by exact .inl rfl) (by rfl))) pt_none (pt_some (DP.toM (dp_var 4 (by rfl) (by exact .inl rfl) (by rfl)))))) (dm_tupH (enc := eId) (dh_cons (dm_s1 0 (by rfl) (by exact .inl rfl) (by rfl) (f_l_odd T) (Nat.le_of_ble_eq_true rfl) (by rfl) (DP.toM (dp_var 1 (by rfl) (by exact .inl rfl) (by rfl)))) dh_nil))) (dm_cast (List.map D.int) up_tup (dm_sliceT (DP.toM (dp_var 2 (by rfl) (by exact .inl rfl) (by rfl))) (pt_some (dm_add (DP.toM (dp_var 4 (by rfl) (by exact .inl rfl) (by rfl))) (DP.toM dp_int))) pt_none))))) (ds_ifR (outR := outV eId) (inj := (fun b => b)) (by intro _; rfl) (by intro _; rfl) (dt_eq Eqs.int (DM.toN (DP.toM (dp_var 3 (by rfl) (by exact .inl rfl) (by rfl)))) (DM.toN (DP.toM dp_int))) (ds_retV (by intro _; rfl) (dm_up (dm_revT (DP.toM (dp_var 2 (by rfl) (by exact .inl rfl) (by rfl)))))) (ds_ifR (outR := outV eId) (inj := (fun b => b)) (by intro _; rfl) (by intro _; rfl) (dt_eq Eqs.int (DM.toN (DP.toM (dp_var 3 (by rfl) (by exact .inl rfl) (by rfl)))) (DM.toN (DP.toM dp_int))) (ds_retV (by intro _; rfl) (dm_ix (eA := (eL eId)) (g := fun xs => xs) (fun _ => rfl) (DM.toN (DO.toM (do_lstH (enc := eId) (dh_cons (dm_up (DO.toM (do_listT (by rfl) T.n_list (DM.toN (DP.toM (dp_var 2 (by rfl) (by exact .inl rfl) (by rfl))))))) (dh_cons (DP.toM dp_non) (dh_cons (DP.toM dp_str) (dh_cons (DP.toM dp_int) (dh_cons dp_dnew (dh_cons (dm_up (dm_tupH (enc := (eT D.int)) (dh_cons (DP.toM (dp_var 2 (by rfl) (by exact .inl rfl) (by rfl))) dh_nil))) (dh_cons (DP.toM dp_bl) dh_nil)))))))))) (DM.toN (dm_s1 0 (by rfl) (by exact .inl rfl) (by rfl) (f_l_draw T) (Nat.le_of_ble_eq_true rfl) (by rfl) (DP.toM dp_int))))) (ds_ifR (outR := outV eId) (inj := (fun b => b)) (by intro _; rfl) (by intro _; rfl) (dt_eq Eqs.int (DM.toN (DP.toM (dp_var 3 (by rfl) (by exact .inl rfl) (by rfl)))) (DM.toN (DP.toM dp_int))) (ds_retV (by intro _; rfl) (dm_up (dm_catT (dm_sliceT (DP.toM (dp_var 2 (by rfl) (by exact .inl rfl) (by rfl))) pt_none (pt_some (DP.toM (dp_var 4 (by rfl) (by exact .inl rfl) (by rfl))))) (dm_sliceT (DP.toM (dp_var 2 (by rfl) (by exact .inl rfl) (by rfl))) (pt_some (dm_add (DP.toM (dp_var 4 (by rfl) (by exact .inl rfl) (by rfl))) (DP.toM dp_int))) pt_none)))) (ds_retV (by intro _; rfl) (dm_s0 0 (by rfl) (by exact .inl rfl) (by rfl) (f_l_deep T) (Nat.le_of_ble_eq_true rfl) (by rfl) )))))))))
theorem f_l_bent (T : HF g C_Book C_Office) : FnI g 4 "_law_bent" (spM g.K (aR (aC D.int (aC D.int (aC (eT (eT D.int)) aN)))) eId (fun p => m_l_bent p.1 p.2.1 p.2.2.1)) := by
  obtain ⟨f, fd, Fu, gx, bd⟩ := T.fn_l_bent
  exact FnI.val2 (N := ["_law_hand_here", "_law_people_here", "_law_person", "_law_row", "_law_kind", "_law_at", "_law_crowd_here"]) (fun p => [.sr, .im (D.int p.1), .im (D.int p.2.1), .im ((eT (eT D.int)) p.2.2.1), .no, .no, .no]) (fun _ => rfl) Fu gx ⟨rfl, rfl, rfl, by decide +kernel, rfl, by decide +kernel, by decide +kernel⟩ bd (fun _ => rfl) fun p => (ds_set 4 (by rfl) (by exact .inl rfl) (by exact .inl rfl) (DM.toE (dm_s1 0 (by rfl) (by exact .inl rfl) (by rfl) (f_l_draw T) (Nat.le_of_ble_eq_true rfl) (by rfl) (DP.toM dp_int))) fun kind1 => (ds_set 5 (by rfl) (by exact .inl rfl) (by exact .inl rfl) (DM.toE (dm_s1 0 (by rfl) (by exact .inl rfl) (by rfl) (f_l_draw T) (Nat.le_of_ble_eq_true rfl) (by rfl) (dm_add (dm_lenT (by rfl) T.n_len (DM.toN (DP.toM (dp_var 3 (by rfl) (by exact .inl rfl) (by rfl))))) (DP.toM dp_int)))) fun at_3 => (ds_set 6 (by rfl) (by exact .inl rfl) (by exact .inl rfl) (DM.toE (dm_c1 (f_l_crowd T) (Nat.le_of_ble_eq_true rfl) (by rfl) (dm_bor (dm_s1 0 (by rfl) (by exact .inl rfl) (by rfl) (f_l_draw T) (Nat.le_of_ble_eq_true rfl) (by rfl) (dm_shl (DP.toM dp_int) (DP.toM (dp_var 1 (by rfl) (by exact .inl rfl) (by rfl))))) (dm_shl (DP.toM dp_int) (DP.toM (dp_var 2 (by rfl) (by exact .inl rfl) (by rfl))))))) fun crowd_here5 => (ds_ifR (outR := outV eId) (inj := (fun b => b)) (by intro _; rfl) (by intro _; rfl) (dt_eq Eqs.int (DM.toN (DP.toM (dp_var 4 (by rfl) (by exact .inl rfl) (by rfl)))) (DM.toN (DP.toM dp_int))) (ds_retV (by intro _; rfl) (dm_up (dm_catT (dm_catT (dm_sliceT (DP.toM (dp_var 3 (by rfl) (by exact .inl rfl) (by rfl))) pt_none (pt_some (DP.toM (dp_var 5 (by rfl) (by exact .inl rfl) (by rfl))))) (dm_tupH (enc := (eT D.int)) (dh_cons (DP.toM (dp_var 6 (by rfl) (by exact .inl rfl) (by rfl))) dh_nil))) (dm_sliceT (DP.toM (dp_var 3 (by rfl) (by exact .inl rfl) (by rfl))) (pt_some (DP.toM (dp_var 5 (by rfl) (by exact .inl rfl) (by rfl)))) pt_none)))) (ds_ifR (outR := outV eId) (inj := (fun b => b)) (by intro _; rfl) (by intro _; rfl) (dt_eq Eqs.int (DM.toN (DP.toM (dp_var 4 (by rfl) (by exact .inl rfl) (by rfl)))) (DM.toN (DP.toM dp_int))) (ds_retV (by intro _; rfl) (dm_up (dm_catT (dm_sliceT (DP.toM (dp_var 3 (by rfl) (by exact .inl rfl) (by rfl))) pt_none (pt_some (DP.toM (dp_var 5 (by rfl) (by exact .inl rfl) (by rfl))))) (dm_sliceT (DP.toM (dp_var 3 (by rfl) (by exact .inl rfl) (by rfl))) (pt_some (dm_add (DP.toM (dp_var 5 (by rfl) (by exact .inl rfl) (by rfl))) (DP.toM dp_int))) pt_none)))) (ds_ifR (outR := outV eId) (inj := (fun b => b)) (by intro _; rfl) (by intro _; rfl) (dt_eq Eqs.int (DM.toN (DP.toM (dp_var 4 (by rfl) (by exact .inl rfl) (by rfl)))) (DM.toN (DP.toM dp_int))) (ds_retV (by intro _; rfl) (dm_up (dm_catT (dm_catT (dm_sliceT (DP.toM (dp_var 3 (by rfl) (by exact .inl rfl) (by rfl))) pt_none (pt_some (DP.toM (dp_var 5 (by rfl) (by exact .inl rfl) (by rfl))))) (dm_tupH (enc := (eT D.int)) (dh_cons (DP.toM (dp_var 6 (by rfl) (by exact .inl rfl) (by rfl))) dh_nil))) (dm_sliceT (DP.toM (dp_var 3 (by rfl) (by exact .inl rfl) (by rfl))) (pt_some (dm_add (DP.toM (dp_var 5 (by rfl) (by exact .inl rfl) (by rfl))) (DP.toM dp_int))) pt_none)))) (ds_ifR (outR := outV eId) (inj := (fun b => b)) (by intro _; rfl) (by intro _; rfl) (dt_eq Eqs.int (DM.toN (DP.toM (dp_var 4 (by rfl) (by exact .inl rfl) (by rfl)))) (DM.toN (DP.toM dp_int))) (ds_retV (by intro _; rfl) (dm_up (dm_revT (DP.toM (dp_var 3 (by rfl) (by exact .inl rfl) (by rfl)))))) (ds_ifR (outR := outV eId) (inj := (fun b => b)) (by intro _; rfl) (by intro _; rfl) (dt_eq Eqs.int (DM.toN (DP.toM (dp_var 4 (by rfl) (by exact .inl rfl) (by rfl)))) (DM.toN (DP.toM dp_int))) (ds_retV (by intro _; rfl) (dm_up (dm_catT (dm_catT (dm_cast (List.map (eT D.int)) up_tup (dm_sliceT (DP.toM (dp_var 3 (by rfl) (by exact .inl rfl) (by rfl))) pt_none (pt_some (DP.toM (dp_var 5 (by rfl) (by exact .inl rfl) (by rfl)))))) (dm_tupH (enc := eId) (dh_cons (dm_s2 0 (by rfl) (by exact .inl rfl) (by rfl) (f_l_crowd_bent T) (Nat.le_of_ble_eq_true rfl) (by rfl) (DP.toM (dp_var 1 (by rfl) (by exact .inl rfl) (by rfl))) (DP.toM (dp_var 6 (by rfl) (by exact .inl rfl) (by rfl)))) dh_nil))) (dm_cast (List.map (eT D.int)) up_tup (dm_sliceT (DP.toM (dp_var 3 (by rfl) (by exact .inl rfl) (by rfl))) (pt_some (DP.toM (dp_var 5 (by rfl) (by exact .inl rfl) (by rfl)))) pt_none))))) (ds_ifR (outR := outV eId) (inj := (fun b => b)) (by intro _; rfl) (by intro _; rfl) (dt_eq Eqs.int (DM.toN (DP.toM (dp_var 4 (by rfl) (by exact .inl rfl) (by rfl)))) (DM.toN (DP.toM dp_int))) (ds_retV (by intro _; rfl) (dm_ix (eA := (eL eId)) (g := fun xs => xs) (fun _ => rfl) (DM.toN (DO.toM (do_lstH (enc := eId) (dh_cons (dm_up (DO.toM (do_listT (by rfl) T.n_list (DM.toN (DP.toM (dp_var 3 (by rfl) (by exact .inl rfl) (by rfl))))))) (dh_cons (DP.toM dp_non) (dh_cons (DP.toM dp_str) (dh_cons (DP.toM dp_int) (dh_cons dp_dnew (dh_cons (dm_up (DP.toM (dp_var 6 (by rfl) (by exact .inl rfl) (by rfl)))) (dh_cons (dm_up (dm_tupH (enc := (eT (eT D.int))) (dh_cons (DP.toM (dp_var 3 (by rfl) (by exact .inl rfl) (by rfl))) dh_nil))) (dh_cons (DP.toM dp_bl) dh_nil))))))))))) (DM.toN (dm_s1 0 (by rfl) (by exact .inl rfl) (by rfl) (f_l_draw T) (Nat.le_of_ble_eq_true rfl) (by rfl) (DP.toM dp_int))))) (ds_retV (by intro _; rfl) (dm_s0 0 (by rfl) (by exact .inl rfl) (by rfl) (f_l_deep T) (Nat.le_of_ble_eq_true rfl) (by rfl) )))))))))))
theorem f_l_flag__B_B (T : HF g C_Book C_Office) : FnI g 1 "_law_flag" (spM g.K (aC D.bl (aC D.bl aN)) D.bl (fun p => m_l_flag__B_B p.1 p.2.1)) := by
  obtain ⟨f, fd, Fu, gx, bd⟩ := T.fn_l_flag
  exact FnI.val2 (N := ["_law_told", "_law_due_here"]) (fun p => [.im (D.bl p.1), .im (D.bl p.2.1)]) (fun _ => rfl) Fu gx ⟨rfl, rfl, rfl, by decide +kernel, rfl, by decide +kernel, by decide +kernel⟩ bd (fun _ => rfl) fun p => (ds_retV (by intro _; rfl) (dm_and (dm_isi "bool" (by decide) (by rfl) T.n_isinstance (by rfl) T.n_bool b_bool (DM.toN (DP.toM (dp_var 0 (by rfl) (by exact .inl rfl) (by rfl))))) (dm_one (dm_eq Eqs.bl (DM.toN (DP.toM (dp_var 0 (by rfl) (by exact .inl rfl) (by rfl)))) (DM.toN (DP.toM (dp_var 1 (by rfl) (by exact .inl rfl) (by rfl))))))))
theorem f_are_crowds_with (T : HF g C_Book C_Office) : FnI g 5 "are_crowds_with" (spM g.K (aC D.int (aC D.int (aC eId aN))) D.bl (fun p => m_are_crowds_with p.1 p.2.1 p.2.2.1)) := by
  obtain ⟨f, fd, Fu, gx, bd⟩ := T.fn_are_crowds_with
  exact FnI.val2 (N := ["people", "person", "thing", "crowd"]) (fun p => [.im (D.int p.1), .im (D.int p.2.1), .im (eId p.2.2.1), .no]) (fun _ => rfl) Fu gx ⟨rfl, rfl, rfl, by decide +kernel, rfl, by decide +kernel, by decide +kernel⟩ bd (fun _ => rfl) fun p => (ds_retV (by intro _; rfl) (dm_and (dm_isi "tuple" (by decide) (by rfl) T.n_isinstance (by rfl) T.n_tuple b_tuple (DM.toN (DP.toM (dp_var 2 (by rfl) (by exact .inl rfl) (by rfl))))) (dm_one (dm_all (by rfl) T.n_all (DM.toN (DO.toM (do_lc [("crowd", 3)] (by kernel_rfl) (di_seqA (DP.toM (dp_var 2 (by rfl) (by exact .inl rfl) (by rfl)))) (dg_name 3 (by rfl) (by exact .inl rfl) (by exact .inr rfl)) (by decide) (fun x1 => dq_nil) (fun x1 => (dm_and (dm_c2 (f_is_crowd T) (Nat.le_of_ble_eq_true rfl) (by rfl) (DP.toM (dp_var 0 (by rfl) (by exact .inr (.inl rfl)) (by rfl))) (DP.toM (dp_var 3 (by rfl) (by exact .inl rfl) (by rfl)))) (dm_one (dm_inA (DM.toN (dm_up (DP.toM (dp_var 1 (by rfl) (by exact .inr (.inl rfl)) (by rfl))))) (DM.toN (DP.toM (dp_var 3 (by rfl) (by exact .inl rfl) (by rfl)))))))))))))))
theorem f_is_barred (T : HF g C_Book C_Office) : FnI g 2 "is_barred" (spM g.K (aC e_Office (aC D.int (aC D.int aN))) D.bl (fun p => m_is_barred p.1 p.2.1 p.2.2.1)) := by
  obtain ⟨f, fd, Fu, gx, bd⟩ := T.fn_is_barred
  exact FnI.val2 (N := ["office", "inside", "person", "others", "number"]) (fun p => [.im (e_Office p.1), .im (D.int p.2.1), .im (D.int p.2.2.1), .no, .no]) (fun _ => rfl) Fu gx ⟨rfl, rfl, rfl, by decide +kernel, rfl, by decide +kernel, by decide +kernel⟩ bd (fun _ => rfl) fun p => (ds_retV (by intro _; rfl) (dm_any (by rfl) T.n_any (DM.toN (DO.toM (do_lc [("others", 3), ("number", 4)] (by kernel_rfl) (di_lst (dm_dget (Dct.k Kk.int) (DM.toN (dm_fld (fs := f_Office) T.cm_Office (T.na_Office_bars) (fun _ => rfl) (fun _ => by rfl) (DP.toM (dp_var 0 (by rfl) (by exact .inl rfl) (by rfl))))) (DM.toN (DP.toM (dp_var 2 (by rfl) (by exact .inl rfl) (by rfl)))))) (dg_pair (dg_name 3 (by rfl) (by exact .inl rfl) (by exact .inr rfl)) (dg_name 4 (by rfl) (by exact .inl rfl) (by exact .inr rfl))) (by decide) (fun x1 => dq_nil) (fun x1 => (dm_c2 (f_holds T) (Nat.le_of_ble_eq_true rfl) (by rfl) (DP.toM (dp_var 1 (by rfl) (by exact .inr (.inl rfl)) (by rfl))) (DP.toM (dp_var 3 (by rfl) (by exact .inl rfl) (by rfl))))))))))
theorem f_in_bits (T : HF g C_Book C_Office) : FnI g 3 "in_bits" (spM g.K (aC e_Office (aC D.int aN)) D.int (fun p => m_in_bits p.1 p.2.1)) := by
  obtain ⟨f, fd, Fu, gx, bd⟩ := T.fn_in_bits
  exact FnI.val2 (N := ["office", "bits", "found", "person"]) (fun p => [.im (e_Office p.1), .im (D.int p.2.1), .no, .no]) (fun _ => rfl) Fu gx ⟨rfl, rfl, rfl, by decide +kernel, rfl, by decide +kernel, by decide +kernel⟩ bd (fun _ => rfl) fun p => (ds_set 2 (by rfl) (by exact .inl rfl) (by exact .inl rfl) (DM.toE (DP.toM dp_int)) fun found1 => (ds_forF (ρl := (fun (z2 : Int) => [.im (e_Office p.1), .im (D.int p.2.1), .im (D.int z2), .no])) (js := [3]) (di_tupN (dm_fld (fs := f_Office) T.cm_Office (T.na_Office_order) (fun _ => rfl) (fun _ => by rfl) (DP.toM (dp_var 0 (by rfl) (by exact .inl rfl) (by rfl))))) (dg_name 3 (by rfl) (by exact .inl rfl) (by exact .inl rfl)) (.s (.s (.s (.n .z)))) (fun z2 x3 => (ds_ifN (ρm := (fun (w7 : Int) => [.im (e_Office p.1), .im (D.int p.2.1), .im (D.int w7), .im (D.int x3)])) (dtm_w (dwm_and (dt_eq Eqs.int (DM.toN (dm_band (dm_shr (DP.toM (dp_var 1 (by rfl) (by exact .inl rfl) (by rfl))) (DP.toM (dp_var 3 (by rfl) (by exact .inl rfl) (by rfl)))) (DP.toM dp_int))) (DM.toN (DP.toM dp_int))) (dwm_and1 (dtm_not (dtm_val (dm_c3 (f_is_barred T) (Nat.le_of_ble_eq_true rfl) (by rfl) (DP.toM (dp_var 0 (by rfl) (by exact .inl rfl) (by rfl))) (DP.toM (dp_var 2 (by rfl) (by exact .inl rfl) (by rfl))) (DP.toM (dp_var 3 (by rfl) (by exact .inl rfl) (by rfl))))))))) (ds_set 2 (by rfl) (by exact .inl rfl) (by exact .inl rfl) (DM.toE (dm_bor (DP.toM (dp_var 2 (by rfl) (by exact .inl rfl) (by rfl))) (dm_shl (DP.toM dp_int) (DP.toM (dp_var 3 (by rfl) (by exact .inl rfl) (by rfl)))))) fun found8 => (ds_end (by rfl) (.s (.s (.s (.s .z)))))) (ds_end (by rfl) (.s (.s (.s (.s .z))))) fun w7 => (ds_end (by rfl) (.s (.s (.s (.n .z))))))) fun z2 => (ds_retV (by intro _; rfl) (DP.toM (dp_var 2 (by rfl) (by exact .inl rfl) (by rfl))))))
theorem f_moved_back (T : HF g C_Book C_Office) : FnI g 1 "moved_back" (spM g.K (aC (eN D.int) (aC D.int aN)) (eN D.int) (fun p => m_moved_back p.1 p.2.1)) := by
  obtain ⟨f, fd, Fu, gx, bd⟩ := T.fn_moved_back
  exact FnI.val2 (N := ["order", "inside", "first", "person"]) (fun p => [.im ((eN D.int) p.1), .im (D.int p.2.1), .no, .no]) (fun _ => rfl) Fu gx ⟨rfl, rfl, rfl, by decide +kernel, rfl, by decide +kernel, by decide +kernel⟩ bd (fun _ => rfl) fun p => (ds_set 2 (by rfl) (by exact .inl rfl) (by exact .inl rfl) (DM.toE (dm_tupN (by rfl) T.n_tuple (DM.toN (DO.toM (do_lc [("person", 3)] (by kernel_rfl) (di_tupN (DP.toM (dp_var 0 (by rfl) (by exact .inl rfl) (by rfl)))) (dg_name 3 (by rfl) (by exact .inl rfl) (by exact .inr rfl)) (by decide) (fun x2 => (dq_one (dt_eq Eqs.int (DM.toN (dm_band (dm_shr (DP.toM (dp_var 1 (by rfl) (by exact .inr (.inl rfl)) (by rfl))) (DP.toM (dp_var 3 (by rfl) (by exact .inl rfl) (by rfl)))) (DP.toM dp_int))) (DM.toN (DP.toM dp_int))))) (fun x2 => (DP.toM (dp_var 3 (by rfl) (by exact .inl rfl) (by rfl))))))))) fun first1 => (ds_retV (by intro _; rfl) (dm_catN (DP.toM (dp_var 2 (by rfl) (by exact .inl rfl) (by rfl))) (dm_tupN (by rfl) T.n_tuple (DM.toN (DO.toM (do_lc [("person", 3)] (by kernel_rfl) (di_tupN (DP.toM (dp_var 0 (by rfl) (by exact .inl rfl) (by rfl)))) (dg_name 3 (by rfl) (by exact .inl rfl) (by exact .inr rfl)) (by decide) (fun x3 => (dq_one (dt_eq Eqs.int (DM.toN (dm_band (dm_shr (DP.toM (dp_var 1 (by rfl) (by exact .inr (.inl rfl)) (by rfl))) (DP.toM (dp_var 3 (by rfl) (by exact .inl rfl) (by rfl)))) (DP.toM dp_int))) (DM.toN (DP.toM dp_int))))) (fun x3 => (DP.toM (dp_var 3 (by rfl) (by exact .inl rfl) (by rfl)))))))))))
theorem f_day_behind (T : HF g C_Book C_Office) : FnI g 8 "day_behind" (spM g.K (aC e_Office (aC D.int aN)) e_Office (fun p => m_day_behind p.1 p.2.1)) := by
  obtain ⟨f, fd, Fu, gx, bd⟩ := T.fn_day_behind
  exact FnI.val2 (N := ["office", "bits"]) (fun p => [.im (e_Office p.1), .im (D.int p.2.1)]) (fun _ => rfl) Fu gx ⟨rfl, rfl, rfl, by decide +kernel, rfl, by decide +kernel, by decide +kernel⟩ bd (fun _ => rfl) fun p => (ds_retV (by intro _; rfl) (dm_mk2 (f_Office___init__ T) (Nat.le_of_ble_eq_true rfl) (by rfl) (fun _ => rfl) (dm_fld (fs := f_Office) T.cm_Office (T.na_Office_book) (fun _ => rfl) (fun _ => by rfl) (DP.toM (dp_var 0 (by rfl) (by exact .inl rfl) (by rfl)))) (dm_c2 (f_moved_back T) (Nat.le_of_ble_eq_true rfl) (by rfl) (dm_fld (fs := f_Office) T.cm_Office (T.na_Office_order) (fun _ => rfl) (fun _ => by rfl) (DP.toM (dp_var 0 (by rfl) (by exact .inl rfl) (by rfl)))) (dm_c2 (f_in_bits T) (Nat.le_of_ble_eq_true rfl) (by rfl) (DP.toM (dp_var 0 (by rfl) (by exact .inl rfl) (by rfl))) (DP.toM (dp_var 1 (by rfl) (by exact .inl rfl) (by rfl)))))))
theorem f_is_out_through (T : HF g C_Book C_Office) : FnI g 9 "is_out_through" (spM g.K (aC e_Office (aC D.int (aC eId aN))) D.bl (fun p => m_is_out_through p.1 p.2.1 p.2.2.1)) := by
  obtain ⟨f, fd, Fu, gx, bd⟩ := T.fn_is_out_through
  exact FnI.val2 (N := ["office", "person", "thing", "crowd"]) (fun p => [.im (e_Office p.1), .im (D.int p.2.1), .im (eId p.2.2.1), .no]) (fun _ => rfl) Fu gx ⟨rfl, rfl, rfl, by decide +kernel, rfl, by decide +kernel, by decide +kernel⟩ bd (fun _ => rfl) fun p => (ds_expr (dm_c2 (f_check_person T) (Nat.le_of_ble_eq_true rfl) (by rfl) (dm_fld (fs := f_Book) T.cm_Book (T.na_Book_people) (fun _ => rfl) (fun _ => by rfl) (dm_fld (fs := f_Office) T.cm_Office (T.na_Office_book) (fun _ => rfl) (fun _ => by rfl) (DP.toM (dp_var 0 (by rfl) (by exact .inl rfl) (by rfl))))) (DP.toM (dp_var 1 (by rfl) (by exact .inl rfl) (by rfl)))) fun _ => (ds_ifR (outR := outV D.bl) (inj := (fun b => b)) (by intro _; rfl) (by intro _; rfl) (dtm_not (dtm_val (dm_c3 (f_are_crowds_with T) (Nat.le_of_ble_eq_true rfl) (by rfl) (dm_fld (fs := f_Book) T.cm_Book (T.na_Book_people) (fun _ => rfl) (fun _ => by rfl) (dm_fld (fs := f_Office) T.cm_Office (T.na_Office_book) (fun _ => rfl) (fun _ => by rfl) (DP.toM (dp_var 0 (by rfl) (by exact .inl rfl) (by rfl))))) (DP.toM (dp_var 1 (by rfl) (by exact .inl rfl) (by rfl))) (DP.toM (dp_var 2 (by rfl) (by exact .inl rfl) (by rfl)))))) (ds_retV (by intro _; rfl) (DP.toM dp_bl)) (ds_forR (ρl := (fun (z6 : D_Office) => [.im (e_Office z6), .im (D.int p.2.1), .im (eId p.2.2.1), .no])) (outR := outV D.bl) (inj := (fun b => b)) (js := [3]) (by intro _; rfl) (by intro _; rfl) (di_seqA (DP.toM (dp_var 2 (by rfl) (by exact .inl rfl) (by rfl)))) (dg_name 3 (by rfl) (by exact .inl rfl) (by exact .inl rfl)) (.s (.s (.s (.n .z)))) (fun z6 x7 => (ds_ifR (outR := outV D.bl) (inj := Sum.inr) (by intro _; rfl) (by intro _; rfl) (dt_eq Eqs.int (DM.toN (dm_band (dm_shr (dm_c2 (f_in_bits T) (Nat.le_of_ble_eq_true rfl) (by rfl) (DP.toM (dp_var 0 (by rfl) (by exact .inl rfl) (by rfl))) (dm_c1 (f_bits_of T) (Nat.le_of_ble_eq_true rfl) (by rfl) (dm_as (deT deI) (deT_ok deI_ok) (DP.toM (dp_var 3 (by rfl) (by exact .inl rfl) (by rfl)))))) (DP.toM (dp_var 1 (by rfl) (by exact .inl rfl) (by rfl)))) (DP.toM dp_int))) (DM.toN (DP.toM dp_int))) (ds_retV (by intro _; rfl) (DP.toM dp_bl)) (ds_set 0 (by rfl) (by exact .inl rfl) (by exact .inl rfl) (DM.toE (dm_c2 (f_day_behind T) (Nat.le_of_ble_eq_true rfl) (by rfl) (DP.toM (dp_var 0 (by rfl) (by exact .inl rfl) (by rfl))) (dm_c1 (f_bits_of T) (Nat.le_of_ble_eq_true rfl) (by rfl) (dm_as (deT deI) (deT_ok deI_ok) (DP.toM (dp_var 3 (by rfl) (by exact .inl rfl) (by rfl))))))) fun office12 => (ds_end (by rfl) (.s (.s (.s (.n .z)))))))) fun z6 => (ds_retV (by intro _; rfl) (DP.toM dp_bl)))))
theorem f_l_is_integer (T : HF g C_Book C_Office) : FnI g 1 "_law_is_integer" (spM g.K (aC eId aN) D.bl (fun p => m_l_is_integer p.1)) := by
  obtain ⟨f, fd, Fu, gx, bd⟩ := T.fn_l_is_integer
  exact FnI.val2 (N := ["_law_thing"]) (fun p => [.im (eId p.1)]) (fun _ => rfl) Fu gx ⟨rfl, rfl, rfl, by decide +kernel, rfl, by decide +kernel, by decide +kernel⟩ bd (fun _ => rfl) fun p => (ds_retV (by intro _; rfl) (dm_and (dm_isi "int" (by decide) (by rfl) T.n_isinstance (by rfl) T.n_int b_int (DM.toN (DP.toM (dp_var 0 (by rfl) (by exact .inl rfl) (by rfl))))) (dm_one (dm_not (dm_isi "bool" (by decide) (by rfl) T.n_isinstance (by rfl) T.n_bool b_bool (DM.toN (DP.toM (dp_var 0 (by rfl) (by exact .inl rfl) (by rfl)))))))))
theorem f_l_is_crowd (T : HF g C_Book C_Office) : FnI g 2 "_law_is_crowd" (spM g.K (aC D.int (aC eId aN)) D.bl (fun p => m_l_is_crowd p.1 p.2.1)) := by
  obtain ⟨f, fd, Fu, gx, bd⟩ := T.fn_l_is_crowd
  exact FnI.val2 (N := ["_law_people_here", "_law_thing", "_law_person", "_law_k"]) (fun p => [.im (D.int p.1), .im (eId p.2.1), .no, .no]) (fun _ => rfl) Fu gx ⟨rfl, rfl, rfl, by decide +kernel, rfl, by decide +kernel, by decide +kernel⟩ bd (fun _ => rfl) fun p => (ds_ifR (outR := outV D.bl) (inj := (fun b => b)) (by intro _; rfl) (by intro _; rfl) (dtm_w (dwm_or (dtm_not (dtm_val (dm_isi "tuple" (by decide) (by rfl) T.n_isinstance (by rfl) T.n_tuple b_tuple (DM.toN (DP.toM (dp_var 1 (by rfl) (by exact .inr (.inl rfl)) (by rfl))))))) (dwm_or1 (dtm_not (dtm_val (dm_all (by rfl) T.n_all (DM.toN (DO.toM (do_lc [("_law_person", 2)] (by kernel_rfl) (di_tupA (DP.toM (dp_var 1 (by rfl) (by exact .inr (.inl rfl)) (by rfl)))) (dg_name 2 (by rfl) (by exact .inl rfl) (by exact .inr rfl)) (by decide) (fun x1 => dq_nil) (fun x1 => (dm_and (dm_c1 (f_l_is_integer T) (Nat.le_of_ble_eq_true rfl) (by rfl) (DP.toM (dp_var 2 (by rfl) (by exact .inl rfl) (by rfl)))) (dm_one (dm_chain (fun X => op_le) (fun X => op_lt) (DP.toM dp_int) (dm_as deI deI_ok (DP.toM (dp_var 2 (by rfl) (by exact .inl rfl) (by rfl)))) (DP.toM (dp_var 0 (by rfl) (by exact .inr (.inl rfl)) (by rfl))) (by with_unfolding_all rfl)))))))))))))) (ds_retV (by intro _; rfl) (DP.toM dp_bl)) (ds_retV (by intro _; rfl) (dm_all (by rfl) T.n_all (DM.toN (DO.toM (do_lc [("_law_k", 3)] (by kernel_rfl) (di_range2 (by rfl) T.n_range (DP.toM dp_int) (dm_len (by rfl) T.n_len (DM.toN (DP.toM (dp_var 1 (by rfl) (by exact .inr (.inl rfl)) (by rfl)))))) (dg_name 3 (by rfl) (by exact .inl rfl) (by exact .inr rfl)) (by decide) (fun x4 => dq_nil) (fun x4 => (dm_lt (dm_as deI deI_ok (dm_ixD (DM.toN (DP.toM (dp_var 1 (by rfl) (by exact .inr (.inl rfl)) (by rfl)))) (DM.toN (dm_sub (DP.toM (dp_var 3 (by rfl) (by exact .inl rfl) (by rfl))) (DP.toM dp_int))))) (dm_as deI deI_ok (dm_ixD (DM.toN (DP.toM (dp_var 1 (by rfl) (by exact .inr (.inl rfl)) (by rfl)))) (DM.toN (DP.toM (dp_var 3 (by rfl) (by exact .inl rfl) (by rfl))))))))))))))
theorem f_l_due (T : HF g C_Book C_Office) : FnI g 3 "_law_due" (spM g.K (aC (eL D.int) (aC (eN D.int) (aC D.int (aC D.int (aC eId aN))))) D.bl (fun p => m_l_due p.1 p.2.1 p.2.2.1 p.2.2.2.1 p.2.2.2.2.1)) := by
  obtain ⟨f, fd, Fu, gx, bd⟩ := T.fn_l_due
  exact FnI.val2 (N := ["_law_masks_here", "_law_order_here", "_law_people_here", "_law_person", "_law_thing", "_law_crowd_here", "_law_bits_here"]) (fun p => [.im ((eL D.int) p.1), .im ((eN D.int) p.2.1), .im (D.int p.2.2.1), .im (D.int p.2.2.2.1), .im (eId p.2.2.2.2.1), .no, .no]) (fun _ => rfl) Fu gx ⟨rfl, rfl, rfl, by decide +kernel, rfl, by decide +kernel, by decide +kernel⟩ bd (fun _ => rfl) fun p => (ds_ifR (outR := outV D.bl) (inj := (fun b => b)) (by intro _; rfl) (by intro _; rfl) (dtm_w (dwm_or (dtm_not (dtm_val (dm_isi "tuple" (by decide) (by rfl) T.n_isinstance (by rfl) T.n_tuple b_tuple (DM.toN (DP.toM (dp_var 4 (by rfl) (by exact .inl rfl) (by rfl))))))) (dwm_or1 (dtm_not (dtm_val (dm_all (by rfl) T.n_all (DM.toN (DO.toM (do_lc [("_law_crowd_here", 5)] (by kernel_rfl) (di_seqA (DP.toM (dp_var 4 (by rfl) (by exact .inl rfl) (by rfl)))) (dg_name 5 (by rfl) (by exact .inl rfl) (by exact .inr rfl)) (by decide) (fun x1 => dq_nil) (fun x1 => (dm_and (dm_c2 (f_l_is_crowd T) (Nat.le_of_ble_eq_true rfl) (by rfl) (DP.toM (dp_var 2 (by rfl) (by exact .inr (.inl rfl)) (by rfl))) (DP.toM (dp_var 5 (by rfl) (by exact .inl rfl) (by rfl)))) (dm_one (dm_inA (DM.toN (dm_up (DP.toM (dp_var 3 (by rfl) (by exact .inr (.inl rfl)) (by rfl))))) (DM.toN (DP.toM (dp_var 5 (by rfl) (by exact .inl rfl) (by rfl))))))))))))))))) (ds_retV (by intro _; rfl) (DP.toM dp_bl)) (ds_forR (ρl := (fun (z5 : (List Int)) => [.im ((eL D.int) p.1), .im ((eN D.int) z5), .im (D.int p.2.2.1), .im (D.int p.2.2.2.1), .im (eId p.2.2.2.2.1), .no, .no])) (outR := outV D.bl) (inj := (fun b => b)) (js := [5]) (by intro _; rfl) (by intro _; rfl) (di_seqA (DP.toM (dp_var 4 (by rfl) (by exact .inl rfl) (by rfl)))) (dg_name 5 (by rfl) (by exact .inl rfl) (by exact .inl rfl)) (.s (.s (.s (.s (.s (.n (.n .z))))))) (fun z5 x6 => (ds_set 6 (by rfl) (by exact .inl rfl) (by exact .inl rfl) (DM.toE (dm_c1 (f_l_bits T) (Nat.le_of_ble_eq_true rfl) (by rfl) (dm_as (deT deI) (deT_ok deI_ok) (DP.toM (dp_var 5 (by rfl) (by exact .inl rfl) (by rfl)))))) fun bits_here7 => (ds_ifR (outR := outV D.bl) (inj := Sum.inr) (by intro _; rfl) (by intro _; rfl) (dt_eq Eqs.int (DM.toN (dm_mod (dm_toInt (by rfl) T.n_int (DM.toN (dm_shr (dm_c3 (f_l_let T) (Nat.le_of_ble_eq_true rfl) (by rfl) (DP.toM (dp_var 0 (by rfl) (by exact .inl rfl) (by rfl))) (DP.toM (dp_var 1 (by rfl) (by exact .inl rfl) (by rfl))) (DP.toM (dp_var 6 (by rfl) (by exact .inl rfl) (by rfl)))) (DP.toM (dp_var 3 (by rfl) (by exact .inr (.inl rfl)) (by rfl)))))) (DP.toM dp_int))) (DM.toN (DP.toM dp_int))) (ds_retV (by intro _; rfl) (DP.toM dp_bl)) (ds_set 1 (by rfl) (by exact .inl rfl) (by exact .inl rfl) (DM.toE (dm_c3 (f_l_next T) (Nat.le_of_ble_eq_true rfl) (by rfl) (DP.toM (dp_var 0 (by rfl) (by exact .inl rfl) (by rfl))) (DP.toM (dp_var 1 (by rfl) (by exact .inl rfl) (by rfl))) (DP.toM (dp_var 6 (by rfl) (by exact .inl rfl) (by rfl))))) fun order_here13 => (ds_end (by rfl) (.s (.s (.s (.s (.s (.n (.n .z)))))))))))) fun z5 => (ds_retV (by intro _; rfl) (DP.toM dp_bl))))
theorem f_law (T : HF g C_Book C_Office) {f : Addr} {fd : FuncData} (Fu : Fun g.K.K "law" "law" s_law f fd) (hlaw : ∀ ns : List Int, ns.length ≤ 63 → Okk (m_law ns []) fun b _ => b = true) : FnOk g.P g.w g.K.K g.mg g.base CX0 66 f fd ["_law_script"] (spLaw g.K.K g.K.T) :=
  law_fn (N := ["_law_script", "_law_hand_here", "_law_people_here", "_law_lots_here", "_law_order_here", "_law_office", "_law_masks_here", "_law_person", "_law_rows", "_law_turn", "_law_row", "_law_thing"]) (f := m_law) (fun p => [.im (eScr p.1), .no, .no, .no, .no, .no, .no, .no, .no, .no, .no, .no]) (fun _ => rfl) Fu ⟨rfl, rfl, rfl, by decide +kernel, rfl, by decide +kernel, by decide +kernel⟩ (fun p => (ds_adopt 1 (by rfl) (by exact .inl rfl) (by exact .inl rfl) (do_c1 (f_l_hand T) (Nat.le_of_ble_eq_true rfl) (by rfl) (DP.toM (dp_var 0 (by rfl) (by exact .inl rfl) (by rfl)))) (fun hand_here1 => (ds_set 2 (by rfl) (by exact .inl rfl) (by exact .inl rfl) (DM.toE (dm_add (DP.toM dp_int) (dm_s1 1 (by rfl) (by exact .inl rfl) (by rfl) (f_l_draw T) (Nat.le_of_ble_eq_true rfl) (by rfl) (DP.toM dp_int)))) fun people_here3 => (ds_set 3 (by rfl) (by exact .inl rfl) (by exact .inl rfl) (DM.toE (dm_s1 1 (by rfl) (by exact .inl rfl) (by rfl) (f_l_rich_lots T) (Nat.le_of_ble_eq_true rfl) (by rfl) (DP.toM (dp_var 2 (by rfl) (by exact .inl rfl) (by rfl))))) fun lots_here5 => (ds_set 4 (by rfl) (by exact .inl rfl) (by exact .inl rfl) (DM.toE (dm_s1 1 (by rfl) (by exact .inl rfl) (by rfl) (f_l_order T) (Nat.le_of_ble_eq_true rfl) (by rfl) (DP.toM (dp_var 2 (by rfl) (by exact .inl rfl) (by rfl))))) fun order_here7 => (ds_set 5 (by rfl) (by exact .inl rfl) (by exact .inl rfl) (DM.toE (dm_mk2 (f_Office___init__ T) (Nat.le_of_ble_eq_true rfl) (by rfl) (fun _ => rfl) (dm_mk2 (f_Book___init__ T) (Nat.le_of_ble_eq_true rfl) (by rfl) (fun _ => rfl) (DP.toM (dp_var 2 (by rfl) (by exact .inl rfl) (by rfl))) (DP.toM (dp_var 3 (by rfl) (by exact .inl rfl) (by rfl)))) (DP.toM (dp_var 4 (by rfl) (by exact .inl rfl) (by rfl))))) fun office9 => (ds_set 6 (by rfl) (by exact .inl rfl) (by exact .inl rfl) (DM.toE (dm_c1 (f_l_masks T) (Nat.le_of_ble_eq_true rfl) (by rfl) (DP.toM (dp_var 3 (by rfl) (by exact .inl rfl) (by rfl))))) fun masks_here14 => (ds_set 7 (by rfl) (by exact .inl rfl) (by exact .inl rfl) (DM.toE (dm_ix (eA := (eL D.int)) (g := fun xs => xs) (fun _ => rfl) (DM.toN (DO.toM (do_lstH (enc := D.int) (dh_cons (DP.toM dp_int) (dh_cons (dm_s1 1 (by rfl) (by exact .inl rfl) (by rfl) (f_l_draw T) (Nat.le_of_ble_eq_true rfl) (by rfl) (DP.toM (dp_var 2 (by rfl) (by exact .inl rfl) (by rfl)))) dh_nil))))) (DM.toN (dm_toIntB (by rfl) T.n_int (DM.toN (dm_eq Eqs.int (DM.toN (dm_s1 1 (by rfl) (by exact .inl rfl) (by rfl) (f_l_draw T) (Nat.le_of_ble_eq_true rfl) (by rfl) (DP.toM dp_int))) (DM.toN (DP.toM dp_int)))))))) fun person16 => (ds_set 8 (by rfl) (by exact .inl rfl) (by exact .inl rfl) (DM.toE (DO.toM (do_lstH (enc := (eT (eT D.int))) (dh_cons (dm_c2 (f_longest_out T) (Nat.le_of_ble_eq_true rfl) (by rfl) (DP.toM (dp_var 5 (by rfl) (by exact .inl rfl) (by rfl))) (DP.toM (dp_var 7 (by rfl) (by exact .inl rfl) (by rfl)))) (dh_cons (dm_s4 1 (by rfl) (by exact .inl rfl) (by rfl) (f_l_led T) (Nat.le_of_ble_eq_true rfl) (by rfl) (DP.toM (dp_var 6 (by rfl) (by exact .inl rfl) (by rfl))) (DP.toM (dp_var 4 (by rfl) (by exact .inl rfl) (by rfl))) (DP.toM (dp_var 2 (by rfl) (by exact .inl rfl) (by rfl))) (DP.toM (dp_var 7 (by rfl) (by exact .inl rfl) (by rfl)))) (dh_cons (dm_tupH (enc := (eT D.int)) dh_nil) dh_nil)))))) fun rows19 => (ds_forR (ρl := (fun (z26 : Unit) => [.im (eScr p.1), .sr, .im (D.int people_here3), .im ((eT (eT D.int)) lots_here5), .im ((eN D.int) order_here7), .im (e_Office office9), .im ((eL D.int) masks_here14), .im (D.int person16), .im ((eL (eT (eT D.int))) rows19), .no, .no, .no])) (outR := outV D.bl) (inj := (fun b => b)) (js := [9]) (by intro _; rfl) (by intro _; rfl) (di_range1 (by rfl) T.n_range (DP.toM dp_int)) (dg_name 9 (by rfl) (by exact .inl rfl) (by exact .inl rfl)) (.s (.s (.s (.s (.s (.s (.s (.s (.s (.n (.n (.n .z)))))))))))) (fun z26 x27 => (ds_set 10 (by rfl) (by exact .inl rfl) (by exact .inl rfl) (DM.toE (dm_ix (eA := (eL (eT (eT D.int)))) (g := fun xs => xs) (fun _ => rfl) (DM.toN (DP.toM (dp_var 8 (by rfl) (by exact .inl rfl) (by rfl)))) (DM.toN (dm_s1 1 (by rfl) (by exact .inl rfl) (by rfl) (f_l_draw T) (Nat.le_of_ble_eq_true rfl) (by rfl) (DP.toM dp_int))))) fun row28 => (ds_set 11 (by rfl) (by exact .inl rfl) (by exact .inl rfl) (DM.toE (dm_up (DP.toM (dp_var 10 (by rfl) (by exact .inl rfl) (by rfl))))) fun thing30 => (ds_ifN (ρm := (fun (w33 : D) => [.im (eScr p.1), .sr, .im (D.int people_here3), .im ((eT (eT D.int)) lots_here5), .im ((eN D.int) order_here7), .im (e_Office office9), .im ((eL D.int) masks_here14), .im (D.int person16), .im ((eL (eT (eT D.int))) rows19), .im (D.int x27), .im ((eT (eT D.int)) row28), .im (eId w33)])) (dt_gt (dm_s1 1 (by rfl) (by exact .inl rfl) (by rfl) (f_l_draw T) (Nat.le_of_ble_eq_true rfl) (by rfl) (DP.toM dp_int)) (DP.toM dp_int)) (ds_set 11 (by rfl) (by exact .inl rfl) (by exact .inl rfl) (DM.toE (dm_s3 1 (by rfl) (by exact .inl rfl) (by rfl) (f_l_bent T) (Nat.le_of_ble_eq_true rfl) (by rfl) (DP.toM (dp_var 2 (by rfl) (by exact .inl rfl) (by rfl))) (DP.toM (dp_var 7 (by rfl) (by exact .inl rfl) (by rfl))) (DP.toM (dp_var 10 (by rfl) (by exact .inl rfl) (by rfl))))) fun thing34 => (ds_end (by rfl) (.s (.s (.s (.s (.s (.s (.s (.s (.s (.s (.s (.s .z)))))))))))))) (ds_end (by rfl) (.s (.s (.s (.s (.s (.s (.s (.s (.s (.s (.s (.s .z))))))))))))) fun w33 => (ds_ifR (outR := outV D.bl) (inj := Sum.inr) (by intro _; rfl) (by intro _; rfl) (dtm_not (dtm_val (dm_c2 (f_l_flag__B_B T) (Nat.le_of_ble_eq_true rfl) (by rfl) (dm_c3 (f_is_out_through T) (Nat.le_of_ble_eq_true rfl) (by rfl) (DP.toM (dp_var 5 (by rfl) (by exact .inl rfl) (by rfl))) (DP.toM (dp_var 7 (by rfl) (by exact .inl rfl) (by rfl))) (DP.toM (dp_var 11 (by rfl) (by exact .inl rfl) (by rfl)))) (dm_c5 (f_l_due T) (Nat.le_of_ble_eq_true rfl) (by rfl) (DP.toM (dp_var 6 (by rfl) (by exact .inl rfl) (by rfl))) (DP.toM (dp_var 4 (by rfl) (by exact .inl rfl) (by rfl))) (DP.toM (dp_var 2 (by rfl) (by exact .inl rfl) (by rfl))) (DP.toM (dp_var 7 (by rfl) (by exact .inl rfl) (by rfl))) (DP.toM (dp_var 11 (by rfl) (by exact .inl rfl) (by rfl))))))) (ds_retV (by intro _; rfl) (DP.toM dp_bl)) (ds_end (by rfl) (.s (.s (.s (.s (.s (.s (.s (.s (.s (.n (.n (.n .z)))))))))))))))))) fun z26 => (ds_retV (by intro _; rfl) (DP.toM dp_bl))))))))))) (noSr_of (by rfl)) (by intro g; exact True.intro))) hlaw
end
end
end W

namespace W
-- PA
open PySem Dl
-- PB
open PySem Dl
theorem rg0_length (n : Int) : (rg 0 n).length = n.toNat := by rw [rg_length]; congr 1; omega
theorem rg_nodup (a b : Int) : (rg a b).Nodup := by
  unfold rg
  refine List.Pairwise.map _ (fun x y h => ?_) List.nodup_range
  omega
theorem popI_at {α : Type} {xs : List α} {r : Int} (h0 : 0 ≤ r) (h1 : r < xs.length) (hz : xs.length ≤ 1000000) : ∃ h : r.toNat < xs.length, popI xs r = some (xs[r.toNat], xs.eraseIdx r.toNat) := by
  have h : r.toNat < xs.length := by omega
  refine ⟨h, ?_⟩
  have e : L2.ixN xs.length r = some r.toNat := by
    unfold L2.ixN
    rw [if_pos h0, if_pos h1]
  unfold popI
  rw [e]
  simp only [List.getElem?_eq_getElem h]
  rw [if_pos (by constructor <;> omega)]
theorem perm_erase {α : Type} : ∀ (l : List α) (i : Nat) (h : i < l.length), (l[i] :: l.eraseIdx i).Perm l
  | x :: l, 0, _ => List.Perm.refl _
  | x :: l, i + 1, h => by
    have ih := perm_erase l i (Nat.lt_of_succ_lt_succ h)
    rw [List.getElem_cons_succ, List.eraseIdx_cons_succ]
    exact (List.Perm.swap _ _ _).trans (ih.cons x)
/-- the people of a crowd: ascending, each one of n -/
def Crowd (n : Int) (l : List Int) : Prop := l.Pairwise (· < ·) ∧ ∀ x ∈ l, 0 ≤ x ∧ x < n
theorem cutL_take {α : Type} (xs : List α) {i : Int} (h : 0 ≤ i) : cutL xs none (some i) = xs.take i.toNat := by
  obtain ⟨k, rfl⟩ := Int.eq_ofNat_of_zero_le h
  unfold cutL
  rw [HT.sIx_nat, HT.sIx_none, Int.toNat_natCast, List.drop_zero, Nat.sub_zero]
  by_cases hk : k ≤ xs.length
  · rw [Nat.min_eq_left hk]
  · rw [Nat.min_eq_right (by omega), List.take_of_length_le (Nat.le_refl _), List.take_of_length_le (by omega)]
theorem leI_eq : leOf ltI = fun x y : Int => decide (x ≤ y) := by
  funext x y
  unfold leOf ltI
  by_cases h : y < x
  · rw [decide_eq_true h, decide_eq_false (by omega)]; rfl
  · rw [decide_eq_false h, decide_eq_true (by omega)]; rfl
theorem sortI_spec (l : List Int) (hn : l.Nodup) : (l.mergeSort (leOf ltI)).Pairwise (· < ·) := by
  have hp := List.mergeSort_perm l (leOf ltI)
  have h1 : (l.mergeSort (leOf ltI)).Pairwise (fun x y => leOf ltI x y = true) := by
    rw [leI_eq]
    refine List.pairwise_mergeSort (fun a b c h1 h2 => ?_) (fun a b => ?_) l
    · simp only [decide_eq_true_eq] at *; omega
    · simp only [Bool.or_eq_true, decide_eq_true_eq]; omega
  have h2 : (l.mergeSort (leOf ltI)).Nodup := hp.nodup_iff.mpr hn
  refine (h1.and h2).imp fun {a b} h => ?_
  have h3 := h.1
  rw [leI_eq] at h3
  have h4 := of_decide_eq_true h3
  have h5 := h.2
  omega
-- PC
open PySem Dl
/-- part within whole -/
def inB (a b : List Int) : Bool := a.all fun x => decide (x ∈ b)
theorem inB_iff {a b : List Int} : inB a b = true ↔ ∀ x ∈ a, x ∈ b := by
  unfold inB
  rw [List.all_eq_true]
  simp only [decide_eq_true_eq]
-- PD
open PySem Dl
open PyProof.Rows PySem.W in
theorem sort_asc {α : Type} [DecidableEq α] {enc : α → D} {lt : α → α → Bool} {ok : α → Bool} (S : Srts enc lt ok) (ht : ∀ x y, lt x y = false → lt y x = false → x = y) {xs : List α} (hn : xs.Nodup) : (xs.mergeSort (leOf lt)).Pairwise fun a b => lt a b = true := by
  have TL := sortLe_total (listOrd itemOrd) false (fun x : α => keyToks (py (enc x)))
  have e : sortLe (listOrd itemOrd) false (fun x : α => keyToks (py (enc x))) = leOf lt := by
    funext x y
    show (!dataLt (py (enc y)) (py (enc x))) = _
    rw [S.lt]
    rfl
  rw [e] at TL
  have tt : ∀ a b : α, (leOf lt a b || leOf lt b a) = true := fun a b => by rw [Bool.or_eq_true]; exact TL.total a b
  have h1 := List.pairwise_mergeSort TL.trans tt xs
  have h2 : (xs.mergeSort (leOf lt)).Nodup := (List.mergeSort_perm xs (leOf lt)).nodup_iff.mpr hn
  refine (h1.and h2).imp fun {a b} h => ?_
  cases q : lt a b with
  | true => rfl
  | false =>
    have h3 : lt b a = false := by
      have := h.1
      unfold leOf at this
      simpa using this
    exact absurd (ht a b q h3) h.2
structure LotsOk (n : Int) (lots : List (List Int)) : Prop where
  asc : lots.Pairwise fun a b => ltT a b = true
  lot : ∀ l ∈ lots, Crowd n l ∧ 2 ≤ l.length
  apart : ∀ a ∈ lots, ∀ b ∈ lots, a ≠ b → inB a b = false
-- PE
open PySem Dl
/-! crowds as bits -/
def bitsN (l : List Int) : Nat := (l.map fun x => 2 ^ x.toNat).sum
theorem bit_add {n i : Nat} (h : n.testBit i = false) (j : Nat) : (2 ^ i + n).testBit j = (decide (j = i) || n.testBit j) := by
  by_cases hj : j = i
  · subst hj
    rw [Nat.testBit_two_pow_add_eq, h, decide_eq_true rfl]
    rfl
  · rw [decide_eq_false hj, Bool.false_or]
    by_cases hlt : j < i
    · rw [Nat.testBit_two_pow_add_gt hlt]
    · obtain ⟨k, rfl⟩ : ∃ k, j = (i + 1) + k := ⟨j - (i + 1), by omega⟩
      have key : ∀ z : Nat, z.testBit (i + 1 + k) = (z / 2 ^ (i + 1)).testBit k := fun z => by rw [Nat.testBit_div_two_pow, Nat.add_comm]
      rw [key, key]
      congr 1
      rw [Nat.testBit_eq_decide_div_mod_eq, decide_eq_false_iff_not] at h
      have hp : 0 < 2 ^ i := Nat.two_pow_pos i
      rw [Nat.pow_succ, ← Nat.div_div_eq_div_mul, ← Nat.div_div_eq_div_mul, Nat.add_div_left _ hp]
      generalize n / 2 ^ i = y at h ⊢
      omega
theorem bits_test : ∀ {l : List Int}, l.Nodup → (∀ x ∈ l, 0 ≤ x) → ∀ j : Nat, (bitsN l).testBit j = decide ((j : Int) ∈ l)
  | [], _, _, j => by unfold bitsN; simp
  | x :: l, hn, h0, j => by
    obtain ⟨hx, hn'⟩ := List.nodup_cons.mp hn
    have ih := bits_test hn' fun y hy => h0 y (List.mem_cons_of_mem _ hy)
    have hx0 := h0 x List.mem_cons_self
    have e : bitsN (x :: l) = 2 ^ x.toNat + bitsN l := by unfold bitsN; rw [List.map_cons, List.sum_cons]
    have hb : (bitsN l).testBit x.toNat = false := by
      rw [ih, Int.toNat_of_nonneg hx0, decide_eq_false hx]
    rw [e, bit_add hb, ih]
    by_cases q : j = x.toNat
    · have : (j : Int) = x := by omega
      rw [decide_eq_true q, Bool.true_or, decide_eq_true (by rw [this]; exact List.mem_cons_self)]
    · rw [decide_eq_false q, Bool.false_or]
      have : (j : Int) ≠ x := by omega
      congr 1
      rw [List.mem_cons]
      simp [this]
theorem Crowd.nodup {n : Int} {l : List Int} (h : Crowd n l) : l.Nodup := h.1.imp fun h => by omega
theorem Crowd.bits {n : Int} {l : List Int} (h : Crowd n l) (j : Nat) : (bitsN l).testBit j = decide ((j : Int) ∈ l) := bits_test h.nodup (fun x hx => (h.2 x hx).1) j
/-- one crowd's bits within another one's -/
theorem and_bits {n m : Int} {a b : List Int} (ha : Crowd n a) (hb : Crowd m b) : (bitsN a &&& bitsN b = bitsN b) ↔ inB b a = true := by
  rw [inB_iff]
  constructor
  · intro h x hx
    have h0 := (hb.2 x hx).1
    have h1 := congrArg (fun z => z.testBit x.toNat) h
    simp only [Nat.testBit_and, ha.bits, hb.bits, Int.toNat_of_nonneg h0, decide_eq_true hx, Bool.and_true, decide_eq_true_eq] at h1
    exact h1
  · intro h
    refine Nat.eq_of_testBit_eq fun j => ?_
    rw [Nat.testBit_and, ha.bits, hb.bits]
    by_cases q : (j : Int) ∈ b
    · rw [decide_eq_true q, decide_eq_true (h _ q)]; rfl
    · rw [decide_eq_false q, Bool.and_false]
theorem bitsOf_eq {l : List Int} (h : ∀ x ∈ l, 0 ≤ x ∧ x < 1000) : m_bits_of l = pure (bitsN l : Int) := by
  unfold m_bits_of
  simp only [pure_bind]
  rw [lcM_map (g := fun x : Int => (1 : Int) * 2 ^ x.toNat) fun x hx => mShl_ok ⟨(h x hx).1, by have := (h x hx).2; omega, by decide⟩, pure_bind]
  congr 1
  unfold bitsN
  induction l with
  | nil => rfl
  | cons x l ih =>
    rw [List.map_cons, List.map_cons, List.sum_cons, List.sum_cons, ih fun y hy => h y (List.mem_cons_of_mem _ hy)]
    push_cast
    rw [Int.one_mul]
theorem holds_eq (a b : Nat) : m_holds (a : Int) (b : Int) = pure (decide (a &&& b = b)) := by
  unfold m_holds
  simp only [opI_pure, pure_bind]
  congr 1
  rw [show Builtin.bitAnd (a : Int) (b : Int) = ((a &&& b : Nat) : Int) from _root_.PySem.W.os_band a b]
  congr 1
  exact propext ⟨fun h => by exact_mod_cast h, fun h => by exact_mod_cast h⟩
-- PF
open PySem Dl
theorem asc_iff (xs : List Int) : (∀ i ∈ rg 1 xs.length, xs.getD (i - 1).toNat 0 < xs.getD i.toNat 0) ↔ xs.Pairwise (· < ·) := by
  constructor
  · intro h
    have h1 : ∀ k, k + 1 < xs.length → xs.getD k 0 < xs.getD (k + 1) 0 := fun k hk => by
      have := h ((k : Int) + 1) (mem_rg.mpr ⟨by omega, by omega⟩)
      have e1 : ((k : Int) + 1 - 1).toNat = k := by omega
      have e2 : ((k : Int) + 1).toNat = k + 1 := by omega
      rw [e1, e2] at this
      exact this
    have h2 : ∀ d k, k + d + 1 < xs.length → xs.getD k 0 < xs.getD (k + d + 1) 0 := fun d => by
      induction d with
      | zero => intro k hk; exact h1 k hk
      | succ d ih =>
        intro k hk
        have a := ih k (by omega)
        have b := h1 (k + d + 1) (by omega)
        have e : k + (d + 1) + 1 = k + d + 1 + 1 := by omega
        rw [e]
        omega
    refine List.pairwise_iff_getElem.mpr fun i j hi hj hij => ?_
    have := h2 (j - i - 1) i (by omega)
    have e : i + (j - i - 1) + 1 = j := by omega
    rw [e, List.getD_eq_getElem?_getD, List.getD_eq_getElem?_getD, List.getElem?_eq_getElem hi, List.getElem?_eq_getElem hj] at this
    exact this
  · intro h i hi
    obtain ⟨h1, h2⟩ := mem_rg.mp hi
    have hi1 : (i - 1).toNat < xs.length := by omega
    have hi2 : i.toNat < xs.length := by omega
    rw [List.getD_eq_getElem?_getD, List.getD_eq_getElem?_getD, List.getElem?_eq_getElem hi1, List.getElem?_eq_getElem hi2]
    exact List.pairwise_iff_getElem.mp h _ _ hi1 hi2 (by omega)
theorem atI_in {α : Type} {xs : List α} {i : Int} (h0 : 0 ≤ i) (h1 : i < xs.length) (d : α) : L2.atI xs i = some (xs.getD i.toNat d) := by
  have hi : i.toNat < xs.length := by omega
  unfold L2.atI L2.ixN
  rw [if_pos h0, if_pos h1, List.getD_eq_getElem?_getD, List.getElem?_eq_getElem hi]
  show xs[i.toNat]? = _
  rw [List.getElem?_eq_getElem hi]
  rfl
theorem ascending_eq {xs : List Int} (h : xs.length ≤ 1000000) : m_are_ascending xs = pure (decide (xs.Pairwise (· < ·))) := by
  unfold m_are_ascending
  simp only [pure_bind, mRg_ok (a := 1) (b := (xs.length : Int)) (by omega) (by omega) (by omega) (by omega) (by omega), Dl.opI, bind_assoc]
  rw [lcM_map (g := fun i : Int => decide (xs.getD (i - 1).toNat 0 < xs.getD i.toNat 0)) fun i hi => by
    obtain ⟨h1, h2⟩ := mem_rg.mp hi
    rw [atI_in (by omega) (by omega) 0, atI_in (by omega) (by omega) 0, ofO_some, ofO_some, opB_pure], pure_bind]
  congr 1
  rw [List.all_map]
  by_cases q : xs.Pairwise (· < ·)
  · rw [decide_eq_true q]
    exact List.all_eq_true.mpr fun i hi => decide_eq_true ((asc_iff xs).mpr q i hi)
  · rw [decide_eq_false q]
    cases hb : List.all (rg 1 xs.length) (id ∘ fun i : Int => decide (xs.getD (i - 1).toNat 0 < xs.getD i.toNat 0)) with
    | false => rfl
    | true => exact absurd ((asc_iff xs).mp fun i hi => of_decide_eq_true (List.all_eq_true.mp hb i hi)) q
def intD : D → Bool
  | .int _ => true
  | _ => false
theorem integer_eq (d : D) : m_is_integer d = pure (intD d) := by
  unfold m_is_integer
  simp only [pure_bind, mAnd_pure2]
  congr 1
  cases d <;> rfl
theorem l_integer_eq (d : D) : m_l_is_integer d = pure (intD d) := integer_eq d
def withinD (a b : Int) : D → Bool
  | .int x => decide (a ≤ x) && decide (x ≤ b)
  | _ => false
theorem is_within_eq (d : D) (a b : Int) : m_is_within d a b = pure (withinD a b d) := by
  unfold m_is_within
  simp only [pure_bind, integer_eq, mAnd_pure]
  cases d <;> first | rfl | skip
  rename_i x
  show (if true = true then mChain bLe bLe (pure a) (ofO (some x)) (pure b) else pure false) = _
  rw [if_pos rfl, ofO_some, mChain_pure]
  rfl
theorem isB_tup (d : D) : isB "tuple" d = (match d with | .tup _ => true | .tpd _ => true | _ => false) := by cases d <;> rfl
/-- a tuple's items, if all are numbers -/
def intsD : D → Option (List Int)
  | .tup l => deAll deI l
  | _ => none
def personsD (n : Int) : D → Bool
  | .tup l => l.all (withinD 0 (n - 1))
  | .tpd l => l.all (withinD 0 (n - 1))
  | _ => false
theorem persons_eq (n : Int) (d : D) : m_are_persons n d = pure (personsD n d) := by
  unfold m_are_persons
  simp only [pure_bind, isB_tup, mAnd_pure, opI_pure]
  have key : ∀ l : List D, ((ofO (some l) : M (List D)) >>= fun xs => lcM (fun _ => pure true) (fun x => m_is_within x 0 (n - 1)) xs >>= fun l => pure (l.all id)) = (pure (l.all (withinD 0 (n - 1))) : M Bool) := fun l => by
    rw [ofO_some, pure_bind, lcM_map (g := withinD 0 (n - 1)) fun x _ => is_within_eq x 0 (n - 1), pure_bind, List.all_map]
    rfl
  cases d with
  | tup l => exact key l
  | tpd l => exact key l
  | _ => rfl
theorem persons_ints : ∀ {n : Int} {l : List D}, l.all (withinD 0 (n - 1)) = true → ∃ xs, deAll deI l = some xs ∧ xs.length = l.length ∧ ∀ x ∈ xs, 0 ≤ x ∧ x < n
  | n, [], _ => ⟨[], rfl, rfl, fun x hx => nomatch hx⟩
  | n, d :: l, h => by
    rw [List.all_cons, Bool.and_eq_true] at h
    obtain ⟨xs, h1, h2, h3⟩ := persons_ints h.2
    cases d with
    | int x =>
      have h4 := h.1
      unfold withinD at h4
      rw [Bool.and_eq_true, decide_eq_true_eq, decide_eq_true_eq] at h4
      refine ⟨x :: xs, by unfold deAll; rw [h1]; rfl, by rw [List.length_cons, List.length_cons, h2], fun y hy => ?_⟩
      rcases List.mem_cons.mp hy with rfl | hy
      · omega
      · exact h3 y hy
    | _ => cases h.1
def crowdD (n : Int) (d : D) : Bool := personsD n d && (match intsD d with | some xs => decide (xs.Pairwise (· < ·)) | none => false)
def fewD : D → Prop
  | .tup l => l.length ≤ 1000
  | .tpd _ => False
  | _ => True
theorem crowd_eq (n : Int) (d : D) (hd : fewD d) : m_is_crowd n d = pure (crowdD n d) := by
  unfold m_is_crowd crowdD
  simp only [pure_bind, persons_eq, mAnd_pure]
  cases q : personsD n d with
  | false => rfl
  | true =>
    rw [if_pos rfl, Bool.true_and]
    cases d with
    | tup l =>
      obtain ⟨xs, h1, h2, _⟩ := persons_ints (n := n) (l := l) q
      show (ofO (deAll deI l) >>= fun a => _) = _
      have hl : l.length ≤ 1000 := hd
      rw [h1, ofO_some, pure_bind, ascending_eq (by omega), show intsD (.tup l) = some xs from h1]
    | tpd l => exact hd.elim
    | _ => cases q
-- PG
open PySem Dl
theorem deI_map : ∀ xs : List Int, deAll deI (xs.map D.int) = some xs
  | [] => rfl
  | x :: xs => by
    rw [List.map_cons]
    unfold deAll
    rw [deI_map xs]
    rfl
theorem ints_inv {l : List D} {xs : List Int} (h : deAll deI l = some xs) : l = xs.map D.int := deAll_ok (enc := D.int) deI_ok l xs h
theorem persons_map (n : Int) (xs : List Int) : personsD n (eT D.int xs) = true ↔ ∀ x ∈ xs, 0 ≤ x ∧ x < n := by
  show (xs.map D.int).all (withinD 0 (n - 1)) = true ↔ _
  rw [List.all_map, List.all_eq_true]
  constructor
  · intro h x hx
    have := h x hx
    show 0 ≤ x ∧ x < n
    have h2 : (decide (0 ≤ x) && decide (x ≤ n - 1)) = true := this
    rw [Bool.and_eq_true, decide_eq_true_eq, decide_eq_true_eq] at h2
    omega
  · intro h x hx
    have := h x hx
    show (decide (0 ≤ x) && decide (x ≤ n - 1)) = true
    rw [Bool.and_eq_true, decide_eq_true_eq, decide_eq_true_eq]
    omega
theorem crowdD_map (n : Int) (xs : List Int) : crowdD n (eT D.int xs) = true ↔ Crowd n xs := by
  unfold crowdD
  rw [show intsD (eT D.int xs) = some xs from deI_map xs, Bool.and_eq_true, persons_map]
  show _ ∧ decide (xs.Pairwise (· < ·)) = true ↔ _
  rw [decide_eq_true_eq]
  exact And.comm
/-- a crowd is a tuple of numbers -/
theorem crowdD_inv {n : Int} {d : D} (h : crowdD n d = true) : ∃ xs, d = eT D.int xs ∧ Crowd n xs := by
  have h0 := h
  unfold crowdD at h
  rw [Bool.and_eq_true] at h
  cases d with
  | tup l =>
    obtain ⟨xs, h1, _⟩ := persons_ints (n := n) (l := l) h.1
    have e := ints_inv h1
    subst e
    exact ⟨xs, rfl, (crowdD_map n xs).mp h0⟩
  | tpd l => cases h.2
  | _ => cases h.1
theorem l_crowd_eq (n : Int) (d : D) (hd : fewD d) : m_l_is_crowd n d = pure (crowdD n d) := by
  by_cases htd : ∃ l, d = .tup l
  rotate_left
  · unfold m_l_is_crowd
    simp only [pure_bind, isB_tup, mOr_pure]
    cases d <;> first | rfl | exact hd.elim | exact absurd ⟨_, rfl⟩ htd
  obtain ⟨l, rfl⟩ := htd
  unfold m_l_is_crowd
  simp only [pure_bind, isB_tup, mOr_pure]
  have hl : l.length ≤ 1000 := hd
  simp only [Bool.not_true, Bool.false_eq_true, if_false]
  rw [show tupsD (.tup l) = some l from rfl, ofO_some, pure_bind]
  rw [lcM_map (g := withinD 0 (n - 1)) fun x _ => by
    rw [l_integer_eq, mAnd_pure]
    cases x <;> first | rfl | skip
    rename_i x _
    show (if true = true then mChain bLe bLt (pure 0) (ofO (some x)) (pure n) else pure false) = _
    rw [if_pos rfl, ofO_some, mChain_pure]
    congr 1
    show (decide (0 ≤ x) && decide (x < n)) = (decide (0 ≤ x) && decide (x ≤ n - 1))
    congr 1
    exact decide_eq_decide.mpr (by omega)]
  simp only [pure_bind]
  have hq : (List.map (withinD 0 (n - 1)) l).all id = personsD n (.tup l) := by
    rw [List.all_map]
    rfl
  rw [hq, mIf_pure]
  unfold crowdD
  cases q : personsD n (.tup l) with
  | false => rfl
  | true =>
    obtain ⟨xs, h1, h2, _⟩ := persons_ints (n := n) (l := l) q
    have e := ints_inv h1
    subst e
    rw [show intsD (.tup (xs.map D.int)) = some xs from h1, Bool.true_and]
    simp only [Bool.not_true, Bool.false_eq_true, if_false]
    have hlen : lenD (eId (D.tup (xs.map D.int))) = pure (xs.length : Int) := by
      show pure ((xs.map D.int).length : Int) = _
      rw [List.length_map]
    rw [List.length_map] at hl
    rw [hlen, pure_bind, mRg_ok (by omega) (by omega) (by omega) (by omega) (by omega), pure_bind]
    rw [lcM_map (g := fun i : Int => decide (xs.getD (i - 1).toNat 0 < xs.getD i.toNat 0)) fun i hi => by
      obtain ⟨h3, h4⟩ := mem_rg.mp hi
      have e1 : ixD (D.tup (xs.map D.int)) (i - 1) = pure (D.int (xs.getD (i - 1).toNat 0)) := by
        show ofO (L2.atI (xs.map D.int) (i - 1)) = _
        rw [atI_map (atI_in (by omega) (by omega) 0), ofO_some]
      have e2 : ixD (D.tup (xs.map D.int)) i = pure (D.int (xs.getD i.toNat 0)) := by
        show ofO (L2.atI (xs.map D.int) i) = _
        rw [atI_map (atI_in (by omega) (by omega) 0), ofO_some]
      simp only [opI_pure, pure_bind, e1, e2]
      show opB bLt (ofO (some _)) (ofO (some _)) = _
      rw [ofO_some, ofO_some, opB_pure], pure_bind]
    congr 1
    rw [List.all_map]
    by_cases q : xs.Pairwise (· < ·)
    · rw [decide_eq_true q]
      exact List.all_eq_true.mpr fun i hi => decide_eq_true ((asc_iff xs).mpr q i hi)
    · rw [decide_eq_false q]
      cases hb : List.all (rg 1 xs.length) (id ∘ fun i : Int => decide (xs.getD (i - 1).toNat 0 < xs.getD i.toNat 0)) with
      | false => rfl
      | true => exact absurd ((asc_iff xs).mp fun i hi => of_decide_eq_true (List.all_eq_true.mp hb i hi)) q
-- PH
open PySem Dl
theorem lexLt_eq : ∀ xs ys : List Int, HT.lexLt xs ys = ltT xs ys
  | [], [] => rfl
  | [], _ :: _ => rfl
  | _ :: _, [] => rfl
  | x :: xs, y :: ys => by
    show (if x = y then HT.lexLt xs ys else decide (x < y)) = (if x = y then ltT xs ys else ltI x y)
    rw [lexLt_eq xs ys]
theorem lot_eq {n : Int} {xs : List Int} (h : Crowd n xs) (h2 : 2 ≤ xs.length) (hn : n ≤ 100) : m_is_lot n (eT D.int xs) = pure true := by
  have hl : xs.length ≤ 1000 := by
    have h3 : xs.length ≤ (rg 0 n).length := List.Nodup.length_le_of_subset h.nodup fun x hx => mem_rg.mpr (h.2 x hx)
    rw [rg0_length] at h3
    omega
  unfold m_is_lot
  simp only [pure_bind]
  have hf : fewD (eT D.int xs) := by
    show (xs.map D.int).length ≤ 1000
    rw [List.length_map]
    exact hl
  rw [crowd_eq n _ hf, (crowdD_map n xs).mpr h, mAnd_pure, if_pos rfl]
  show opB bGt (pure ((xs.map D.int).length : Int)) (pure 1) = _
  rw [opB_pure, List.length_map]
  congr 1
  exact decide_eq_true (by omega)
theorem lt_irrefl_T : ∀ xs : List Int, ltT xs xs = false
  | [] => rfl
  | x :: xs => by
    show (if x = x then ltT xs xs else ltI x x) = false
    rw [if_pos rfl, lt_irrefl_T xs]
theorem any_congr_mem {α : Type} {p q : α → Bool} : ∀ {l : List α}, (∀ x ∈ l, p x = q x) → l.any p = l.any q
  | [], _ => rfl
  | x :: l, h => by rw [List.any_cons, List.any_cons, h x List.mem_cons_self, any_congr_mem fun y hy => h y (List.mem_cons_of_mem _ hy)]
def bitsZ (l : List Int) : Int := (bitsN l : Int)
theorem enum_at {α : Type} {xs : List α} {k : Nat} {p : Int × α} {r : List (Int × α)} (h : p :: r = (enumI xs).drop k) : ∃ hk : k < xs.length, p = ((k : Int), xs[k]) ∧ r = (enumI xs).drop (k + 1) := by
  have h1 : ((enumI xs).drop k)[0]? = some p := by rw [← h]; rfl
  rw [List.getElem?_drop, Nat.add_zero, enumI_get] at h1
  have hk : k < xs.length := by
    cases q : xs[k]? with
    | none => rw [q] at h1; cases h1
    | some y => exact (List.getElem?_eq_some_iff.mp q).1
  refine ⟨hk, ?_, ?_⟩
  · rw [List.getElem?_eq_getElem hk] at h1
    exact (Option.some.inj h1).symm
  · have h2 : r = (p :: r).drop 1 := rfl
    rw [h2, h, List.drop_drop]
theorem wrong_wp {S : List D → Prop} {n : Int} {lots : List (List Int)} (h : LotsOk n lots) (hn : n ≤ 100) (hl : lots.length ≤ 1000) : Wp S (m_first_wrong_lot n lots) fun r => r = none := by
  unfold m_first_wrong_lot
  simp only [nilM_pure, pure_bind, List.length_nil, chk_ok (Nat.zero_le LIM)]
  refine bindS_wp (I := fun _ => True) (R := fun _ => False) ((loopM_wp (fun (xs : List (Int × List Int)) (z : List Int) => ∃ k, xs = (enumI lots).drop k ∧ z = (lots.take k).map bitsZ) (fun _ => False) (fun x xs z hz => ?_) (by exact ⟨0, rfl, rfl⟩)).mono fun r hr => ?_) (fun z _ => Wp.pure rfl) fun y hy => hy.elim
  · obtain ⟨k, hxs, rfl⟩ := hz
    obtain ⟨hk, rfl, rfl⟩ := enum_at hxs
    obtain ⟨hc, h2⟩ := h.lot lots[k] (List.getElem_mem hk)
    have hb : ∀ x ∈ lots[k], 0 ≤ x ∧ x < 1000 := fun x hx => ⟨(hc.2 x hx).1, by have := (hc.2 x hx).2; omega⟩
    have hasc : (if bGt (k : Int) 0 = true then (ofO (L2.atI lots ((k : Int) - 1)) >>= fun x => (pure !HT.lexLt x lots[k] : M Bool)) else (pure false : M Bool)) = pure false := by
      split
      · rename_i hk0
        have hk1 : 0 < k := by have := of_decide_eq_true hk0; omega
        rw [atI_in (xs := lots) (i := (k : Int) - 1) (by omega) (by omega) [], ofO_some, pure_bind, lexLt_eq]
        have e1 : ((k : Int) - 1).toNat = k - 1 := by omega
        have hk2 : k - 1 < lots.length := by omega
        rw [e1, List.getD_eq_getElem?_getD, List.getElem?_eq_getElem hk2]
        have := List.pairwise_iff_getElem.mp h.asc (k - 1) k hk2 hk (by omega)
        show pure (!ltT lots[k - 1] lots[k]) = _
        rw [this]
        rfl
      · rfl
    have hap : ∀ m ∈ lots.take k, inB m lots[k] = false ∧ inB lots[k] m = false := fun m hm => by
      obtain ⟨i, hi, rfl⟩ := List.mem_take_iff_getElem.mp hm
      have hi2 : i < lots.length := by omega
      have hlt := List.pairwise_iff_getElem.mp h.asc i k hi2 hk (by omega)
      have hne : lots[i] ≠ lots[k] := fun e => by
        rw [e, lt_irrefl_T] at hlt
        cases hlt
      exact ⟨h.apart _ (List.getElem_mem hi2) _ (List.getElem_mem hk) hne, h.apart _ (List.getElem_mem hk) _ (List.getElem_mem hi2) (Ne.symm hne)⟩
    simp only [pure_bind, opB_pure, opI_pure, bind_assoc, mAnd_pure, mOr_pure, mIf_pure, lot_eq hc h2 hn, bitsOf_eq hb, Bool.not_true, Bool.false_eq_true, if_false]
    rw [hasc, mIf_false, lcM_map (g := fun _ => false) fun x9 hx => ?_, pure_bind, mIf_pure]
    · have hany : (List.map (fun _ : Int => false) (List.map bitsZ (List.take k lots))).any id = false := by
        rw [List.any_map, List.any_eq_false]
        exact fun x _ => Bool.false_ne_true
      have hlen : (List.map bitsZ (List.take k lots)).length ≤ k := by
        rw [List.length_map, List.length_take]
        exact Nat.min_le_left _ _
      rw [hany, if_neg Bool.false_ne_true, chk_ok (by show _ ≤ 1000000; omega), pure_bind]
      refine Wp.pure ⟨k + 1, rfl, ?_⟩
      rw [List.take_add_one, List.getElem?_eq_getElem hk, List.map_append]
      rfl
    · obtain ⟨m, hm, rfl⟩ := List.mem_map.mp hx
      have hcm := (h.lot m (List.mem_of_mem_take hm)).1
      obtain ⟨q1, q2⟩ := hap m hm
      have d1 : decide (bitsN lots[k] &&& bitsN m = bitsN m) = false := decide_eq_false fun e => by
        rw [(and_bits hc hcm).mp e] at q1
        cases q1
      have d2 : decide (bitsN m &&& bitsN lots[k] = bitsN lots[k]) = false := decide_eq_false fun e => by
        rw [(and_bits hcm hc).mp e] at q2
        cases q2
      unfold bitsZ
      rw [holds_eq, holds_eq, mOr_pure2, d1, d2]
      rfl
  · cases r with
    | inl z => trivial
    | inr y => exact hr
theorem keep_eq {n : Int} {lots : List (List Int)} (h : LotsOk n lots) (hn : n ≤ 100) : m_Book_keep n lots = pure (n, lots, lots.map bitsZ) := by
  unfold m_Book_keep
  simp only [pure_bind]
  rw [lcM_map (g := bitsZ) fun x hx => bitsOf_eq fun y hy => ⟨((h.lot x hx).1.2 y hy).1, by have := ((h.lot x hx).1.2 y hy).2; omega⟩, pure_bind]
theorem book_wp {S : List D → Prop} {n : Int} {lots : List (List Int)} (h : LotsOk n lots) (h1 : 1 ≤ n) (h2 : n ≤ 12) (hl : (lots.length : Int) ≤ 60) : Wp S (m_Book___init__ n lots) fun b => b = (n, lots, lots.map bitsZ) := by
  unfold m_Book___init__
  have e1 : withinD 1 12 (D.int n) = true := by
    show (decide (1 ≤ n) && decide (n ≤ 12)) = true
    rw [decide_eq_true h1, decide_eq_true h2]; rfl
  have e2 : bGt (lots.length : Int) 60 = false := decide_eq_false (by omega)
  simp only [pure_bind, is_within_eq, e1, Bool.not_true, mIf_false, isB_tup, opB_pure, mOr_pure2, e2, Bool.or_false]
  refine (wrong_wp h (by omega) (by omega)).bind fun r hr => ?_
  subst hr
  show Wp S (mIf (pure false) stuck _) _
  rw [mIf_false, keep_eq h (by omega), pure_bind]
  exact Wp.pure rfl
theorem crowd_few {n : Int} {xs : List Int} (h : Crowd n xs) (hn : n ≤ 100) : xs.length ≤ 100 := by
  have h3 : xs.length ≤ (rg 0 n).length := List.Nodup.length_le_of_subset h.nodup fun x hx => mem_rg.mpr (h.2 x hx)
  rw [rg0_length] at h3
  omega
-- PI
open PySem Dl
theorem rg_asc (a b : Int) : (rg a b).Pairwise (· < ·) := by
  unfold rg
  refine List.Pairwise.map _ (fun x y h => ?_) List.pairwise_lt_range
  have : x < y := h
  omega
theorem Crowd.mono {k n : Int} {c : List Int} (h : Crowd k c) (hk : k ≤ n) : Crowd n c := ⟨h.1, fun x hx => ⟨(h.2 x hx).1, by have := (h.2 x hx).2; omega⟩⟩
-- PJ
open PySem Dl
def LN (k : Nat) (P : D → Prop) (l : List D) : Prop := l.length = k ∧ ∀ x ∈ l, P x
section
variable {S : List D → Prop} {P : D → Prop} {k : Nat}
theorem nil_wp : Wp S (pure []) (LN 0 P) := Wp.pure ⟨rfl, fun x hx => nomatch hx⟩
theorem cons_wp {m : M D} {ml : M (List D)} (h : Wp S m P) (hl : Wp S ml (LN k P)) : Wp S (consM m ml) (LN (k + 1) P) := by
  unfold consM
  refine h.bind fun a ha => hl.bind fun l hl => Wp.pure ⟨by rw [List.length_cons, hl.1], fun x hx => ?_⟩
  rcases List.mem_cons.mp hx with rfl | hx
  · exact ha
  · exact hl.2 x hx
theorem consp_wp {d : D} {ml : M (List D)} (h : P d) (hl : Wp S ml (LN k P)) : Wp S (consM (pure d) ml) (LN (k + 1) P) := cons_wp (Wp.pure h) hl
theorem chkL_wp {ml : M (List D)} (h : Wp S ml (LN k P)) (hk : k ≤ LIM) : Wp S (ml >>= fun l => chk l.length >>= fun _ => pure l) (LN k P) := h.bind fun l hl => by
  rw [hl.1, chk_ok hk, pure_bind]
  exact Wp.pure hl
theorem chk_bind {α : Type} {n : Nat} (h : n ≤ 1000000) (f : Unit → M α) : (chk n >>= f) = f () := by rw [chk_ok h, pure_bind]
end
theorem few_T {xs : List Int} (h : xs.length ≤ 1000) : fewD (eT D.int xs) := by
  show (xs.map D.int).length ≤ 1000
  rw [List.length_map]
  exact h
theorem few_A {xs : List D} (h : xs.length ≤ 1000) : fewD (eT eId xs) := by
  show (xs.map eId).length ≤ 1000
  rw [List.length_map]
  exact h
end W

namespace W
open PySem Dl
-- dicts
theorem getL_put {κ β : Type} [DecidableEq κ] (l : List (κ × β)) (k : κ) (v : β) (j : κ) : getL (putL l k v) j = if j = k then some v else getL l j := by
  unfold putL
  split
  · rename_i h
    induction l with
    | nil => cases h
    | cons p r ih =>
      rw [List.map_cons, getL_cons]
      by_cases hp : p.1 = k
      · rw [if_pos hp]
        show (if p.1 = j then some v else _) = _
        by_cases hj : j = k
        · rw [if_pos (hp.trans hj.symm), if_pos hj]
        · rw [if_neg (fun e => hj (e.symm.trans hp)), if_neg hj, getL_cons, if_neg (fun e => hj (e.symm.trans hp))]
          have hm : ∀ l : List (κ × β), getL (l.map fun p => if p.1 = k then (p.1, v) else p) j = getL l j := by
            intro l
            induction l with
            | nil => rfl
            | cons q l ih2 =>
              rw [List.map_cons, getL_cons, getL_cons, ih2]
              by_cases hq : q.1 = k
              · rw [if_pos hq]
                rw [if_neg (show ¬ q.1 = j from fun e => hj (e.symm.trans hq)), if_neg (fun e => hj (e.symm.trans hq))]
              · rw [if_neg hq]
          exact hm r
      · rw [if_neg hp, getL_cons]
        have hr : (r.any fun p => decide (p.1 = k)) = true := by
          rw [List.any_cons, decide_eq_false hp, Bool.false_or] at h
          exact h
        rw [ih hr]
        by_cases hj : j = k
        · rw [if_pos hj, if_neg (fun e => hp (e.trans hj)), if_pos hj]
        · rw [if_neg hj, if_neg hj]
  · rename_i h
    have hk : ∀ p ∈ l, p.1 ≠ k := fun p hp e => h (List.any_eq_true.mpr ⟨p, hp, decide_eq_true e⟩)
    clear h
    induction l with
    | nil => rw [List.nil_append, getL_cons]; by_cases hj : j = k
             · rw [if_pos hj, if_pos hj.symm]
             · rw [if_neg hj, if_neg (fun e => hj e.symm)]
    | cons p r ih =>
      rw [List.cons_append, getL_cons, getL_cons, ih fun q hq => hk q (List.mem_cons_of_mem _ hq)]
      by_cases hp : p.1 = j
      · rw [if_pos hp, if_pos hp]
        have : j ≠ k := fun e => hk p List.mem_cons_self (hp.trans e)
        rw [if_neg this]
      · rw [if_neg hp, if_neg hp]
theorem getL_of_mem {κ β : Type} [DecidableEq κ] {l : List (κ × β)} (hn : (l.map (·.1)).Nodup) {k : κ} {v : β} (h : (k, v) ∈ l) : getL l k = some v := by
  induction l with
  | nil => cases h
  | cons p r ih =>
    rw [getL_cons]
    have hn := List.nodup_cons.mp hn
    rcases List.mem_cons.mp h with h | h
    · rw [← h, if_pos rfl]
    · rw [if_neg (fun e => hn.1 (by show p.1 ∈ r.map (·.1); rw [e]; exact List.mem_map.mpr ⟨_, h, rfl⟩))]
      exact ih hn.2 h
theorem dcM_fold {α κ β : Type} [DecidableEq κ] {p : α → M Bool} {fk : α → M κ} {fv : α → M β} {q : α → Bool} {k : α → κ} {v : α → β} : ∀ {l : List α} (acc : List (κ × β)), (∀ x ∈ l, p x = pure (q x)) → (∀ x ∈ l, q x = true → fk x = pure (k x)) → (∀ x ∈ l, q x = true → fv x = pure (v x)) →
    dcM p fk fv l acc = pure (l.foldl (fun a x => if q x then putL a (k x) (v x) else a) acc)
  | [], acc, _, _, _ => rfl
  | x :: l, acc, h1, h2, h3 => by
    unfold dcM
    rw [h1 x List.mem_cons_self, pure_bind]
    have ih := fun acc => dcM_fold (l := l) acc (fun y hy => h1 y (List.mem_cons_of_mem _ hy)) (fun y hy => h2 y (List.mem_cons_of_mem _ hy)) (fun y hy => h3 y (List.mem_cons_of_mem _ hy))
    cases hq : q x with
    | true =>
      rw [if_pos rfl, h2 x List.mem_cons_self hq, pure_bind, h3 x List.mem_cons_self hq, pure_bind, ih, List.foldl_cons, hq]
      rfl
    | false => rw [if_neg Bool.false_ne_true, ih, List.foldl_cons, hq]; rfl
theorem fold_put {α κ β : Type} [DecidableEq κ] {k : α → κ} {v : α → β} : ∀ {l : List α} {acc : List (κ × β)}, (l.map k).Nodup → (∀ x ∈ l, k x ∉ acc.map (·.1)) → l.foldl (fun a x => putL a (k x) (v x)) acc = acc ++ l.map fun x => (k x, v x)
  | [], acc, _, _ => by rw [List.map_nil, List.append_nil]; rfl
  | x :: l, acc, hn, hd => by
    have hn := List.nodup_cons.mp hn
    have hx : putL acc (k x) (v x) = acc ++ [(k x, v x)] := by
      unfold putL
      rw [if_neg]
      intro h
      obtain ⟨p, hp, e⟩ := List.any_eq_true.mp h
      exact hd x List.mem_cons_self (by rw [← of_decide_eq_true e]; exact List.mem_map_of_mem hp)
    rw [List.foldl_cons, hx, fold_put hn.2 fun y hy => ?_, List.append_assoc]
    · rfl
    · rw [List.map_append, List.mem_append]
      rintro (h | h)
      · exact hd y (List.mem_cons_of_mem _ hy) h
      · have : k y = k x := List.mem_singleton.mp h
        exact hn.1 (by rw [← this]; exact List.mem_map_of_mem hy)
theorem dcM_nodup {α κ β : Type} [DecidableEq κ] {fk : α → M κ} {fv : α → M β} {k : α → κ} {v : α → β} {l : List α} (h2 : ∀ x ∈ l, fk x = pure (k x)) (h3 : ∀ x ∈ l, fv x = pure (v x)) (hn : (l.map k).Nodup) :
    dcM (fun _ => pure true) fk fv l [] = pure (l.map fun x => (k x, v x)) := by
  rw [dcM_fold (q := fun _ => true) (k := k) (v := v) [] (fun _ _ => rfl) (fun x hx _ => h2 x hx) (fun x hx _ => h3 x hx)]
  have : (l.foldl (fun a x => if (fun _ : α => true) x then putL a (k x) (v x) else a) ([] : List (κ × β))) = l.foldl (fun a x => putL a (k x) (v x)) [] := rfl
  rw [this, fold_put hn (fun x _ h => absurd h List.not_mem_nil), List.nil_append]
-- lists of people
theorem perm_mem {n : Int} {o : List Int} (h : o.Perm (rg 0 n)) {x : Int} : x ∈ o ↔ 0 ≤ x ∧ x < n := by rw [h.mem_iff, mem_rg]
theorem perm_nodup {n : Int} {o : List Int} (h : o.Perm (rg 0 n)) : o.Nodup := h.nodup_iff.mpr (rg_nodup 0 n)
theorem perm_len {n : Int} {o : List Int} (h : o.Perm (rg 0 n)) (h0 : 0 ≤ n) : (o.length : Int) = n := by
  rw [h.length_eq, rg0_length]; omega
theorem row_eq {n : Int} {xs : List Int} (hx : ∀ x ∈ xs, 0 ≤ x ∧ x < n) (hn : xs.Nodup) : m_is_row n xs = pure true := by
  unfold m_is_row
  simp only [pure_bind]
  have hp : personsD n (eT D.int xs) = true := (persons_map n xs).mpr hx
  have hp2 : personsD n (eN D.int xs) = true := hp
  rw [persons_eq]
  (first | rw [hp] | rw [hp2])
  rw [mAnd_pure, if_pos rfl]
  rw [dcM_nodup (k := fun x => x) (v := fun _ => true) (fun _ _ => rfl) (fun _ _ => rfl) (by rw [List.map_id']; exact hn), pure_bind, List.length_map]
  simp
theorem order_eq {n : Int} {o : List Int} (h : o.Perm (rg 0 n)) (h0 : 0 ≤ n) : m_is_order n o = pure true := by
  unfold m_is_order
  simp only [pure_bind]
  rw [row_eq (fun x hx => (perm_mem h).mp hx) (perm_nodup h), mAnd_pure, if_pos rfl]
  congr 1
  exact decide_eq_true (perm_len h h0)
-- the law's source
theorem withS_wp {γ : Type} {S : List D → Prop} {l : List D} {m : M γ} {Q : γ → Prop} (h0 : l ≠ []) (h1 : l.length ≤ LIM) (hl : S l) (h : Wp S m Q) (h3 : ∀ s, S s → isDs s = false := by first | exact isDs_src5 | exact isDs_srcH) : Wp (fun s => s = []) (withS l m) Q := fun s hs => by
  subst hs
  unfold withS
  rw [if_pos ⟨rfl, ⟨h0, h3 l hl⟩, h1⟩]
  have := h l hl
  cases e : m l with
  | ok g s' => rw [e] at this; exact ⟨rfl, this.2⟩
  | stuck => rw [e] at this; exact this.elim
-- folds
-- the same
-- ascending
theorem asc_uniq : ∀ {a b : List Int}, a.Pairwise (· < ·) → b.Pairwise (· < ·) → (∀ x, x ∈ a ↔ x ∈ b) → a = b
  | [], [], _, _, _ => rfl
  | [], y :: b, _, _, h => nomatch (h y).mpr List.mem_cons_self
  | x :: a, [], _, _, h => nomatch (h x).mp List.mem_cons_self
  | x :: a, y :: b, ha, hb, h => by
    obtain ⟨ha1, ha2⟩ := List.pairwise_cons.mp ha
    obtain ⟨hb1, hb2⟩ := List.pairwise_cons.mp hb
    have e : x = y := by
      rcases List.mem_cons.mp ((h x).mp List.mem_cons_self) with q | q
      · exact q
      · rcases List.mem_cons.mp ((h y).mpr List.mem_cons_self) with r | r
        · exact r.symm
        · have := ha1 y r
          have := hb1 x q
          omega
    subst e
    rw [asc_uniq ha2 hb2 fun z => ?_]
    constructor
    · intro hz
      rcases List.mem_cons.mp ((h z).mp (List.mem_cons_of_mem _ hz)) with q | q
      · have := ha1 z hz; omega
      · exact q
    · intro hz
      rcases List.mem_cons.mp ((h z).mpr (List.mem_cons_of_mem _ hz)) with q | q
      · have := hb1 z hz; omega
      · exact q
def asc (n : Int) (l : List Int) : List Int := (rg 0 n).filter fun x => decide (x ∈ l)
theorem mem_asc {n : Int} {l : List Int} {x : Int} : x ∈ asc n l ↔ (0 ≤ x ∧ x < n) ∧ x ∈ l := by
  unfold asc
  rw [List.mem_filter, mem_rg, decide_eq_true_eq]
theorem mem_asc' {n : Int} {l : List Int} (h : ∀ x ∈ l, 0 ≤ x ∧ x < n) {x : Int} : x ∈ asc n l ↔ x ∈ l := by
  rw [mem_asc]
  exact ⟨fun q => q.2, fun q => ⟨h x q, q⟩⟩
theorem asc_crowd (n : Int) (l : List Int) : Crowd n (asc n l) := ⟨(rg_asc 0 n).sublist List.filter_sublist, fun x hx => (mem_asc.mp hx).1⟩
theorem nodup_few {n : Int} {l : List Int} (hn : l.Nodup) (h : ∀ x ∈ l, 0 ≤ x ∧ x < n) : l.length ≤ n.toNat := by
  have h3 : l.length ≤ (rg 0 n).length := List.Nodup.length_le_of_subset hn fun x hx => mem_rg.mpr (h x hx)
  rw [rg0_length] at h3
  exact h3
-- bits
theorem bits_uniq {l : List Int} (hn : l.Nodup) (h0 : ∀ x ∈ l, 0 ≤ x) {m : Nat} (h : ∀ j : Nat, m.testBit j = decide ((j : Int) ∈ l)) : m = bitsN l :=
  Nat.eq_of_testBit_eq fun j => by rw [h, bits_test hn h0]
theorem bits_congr {a b : List Int} (ha : a.Nodup) (hb : b.Nodup) (a0 : ∀ x ∈ a, 0 ≤ x) (hm : ∀ x, x ∈ a ↔ x ∈ b) : bitsN a = bitsN b :=
  bits_uniq hb (fun x hx => a0 x ((hm x).mpr hx)) fun j => by rw [bits_test ha a0]; exact decide_eq_decide.mpr (hm _)
theorem bits_lt {n : Int} {l : List Int} (hn : l.Nodup) (h : ∀ x ∈ l, 0 ≤ x ∧ x < n) : bitsN l < 2 ^ n.toNat := by
  refine Nat.lt_pow_two_of_testBit _ fun i hi => ?_
  rw [bits_test hn fun x hx => (h x hx).1]
  refine decide_eq_false fun hx => ?_
  have := h _ hx
  omega
theorem bits_one {x : Int} : bitsN [x] = 2 ^ x.toNat := by unfold bitsN; simp
theorem bits_xor {a b c : List Int} (ha : a.Nodup) (hb : b.Nodup) (hc : c.Nodup) (a0 : ∀ x ∈ a, 0 ≤ x) (b0 : ∀ x ∈ b, 0 ≤ x) (hm : ∀ x, x ∈ c ↔ ((x ∈ a ∧ x ∉ b) ∨ (x ∉ a ∧ x ∈ b))) : bitsN a ^^^ bitsN b = bitsN c :=
  bits_uniq hc (fun x hx => by rcases (hm x).mp hx with q | q; exact a0 x q.1; exact b0 x q.2) fun j => by
    rw [Nat.testBit_xor, bits_test ha a0, bits_test hb b0]
    have := hm (j : Int)
    by_cases q : (j : Int) ∈ a
    · by_cases r : (j : Int) ∈ b
      · rw [decide_eq_true q, decide_eq_true r, decide_eq_false]; rfl
        rw [this]; rintro (z | z); exact z.2 r; exact z.1 q
      · rw [decide_eq_true q, decide_eq_false r, decide_eq_true]; rfl
        exact this.mpr (.inl ⟨q, r⟩)
    · by_cases r : (j : Int) ∈ b
      · rw [decide_eq_false q, decide_eq_true r, decide_eq_true]; rfl
        exact this.mpr (.inr ⟨q, r⟩)
      · rw [decide_eq_false q, decide_eq_false r, decide_eq_false]; rfl
        rw [this]; rintro (z | z); exact q z.1; exact r z.2
theorem bits_snoc {l : List Int} {x : Int} (hn : l.Nodup) (h0 : ∀ y ∈ l, 0 ≤ y) (hx : x ∉ l) (hx0 : 0 ≤ x) : bitsN l ||| 2 ^ x.toNat = bitsN (l ++ [x]) :=
  bits_uniq (List.nodup_append.mpr ⟨hn, List.nodup_cons.mpr ⟨List.not_mem_nil, List.nodup_nil⟩, fun a ha b hb e => hx (by rw [← List.mem_singleton.mp hb, ← e]; exact ha)⟩)
    (fun y hy => by
      rcases List.mem_append.mp hy with q | q
      · exact h0 y q
      · rw [List.mem_singleton.mp q]; exact hx0) fun j => by
    rw [Nat.testBit_or, bits_test hn h0, Nat.testBit_two_pow]
    by_cases q : (j : Int) ∈ l
    · rw [decide_eq_true q, Bool.true_or, decide_eq_true (List.mem_append.mpr (.inl q))]
    · rw [decide_eq_false q, Bool.false_or]
      refine decide_eq_decide.mpr ?_
      rw [List.mem_append, List.mem_singleton]
      constructor
      · intro e; exact .inr (by omega)
      · rintro (z | z)
        · exact absurd z q
        · omega
/-- a part's bits, within -/
theorem and_bitsN {a b : List Int} (ha : a.Nodup) (hb : b.Nodup) (a0 : ∀ x ∈ a, 0 ≤ x) (b0 : ∀ x ∈ b, 0 ≤ x) : (bitsN a &&& bitsN b = bitsN b) ↔ inB b a = true := by
  rw [inB_iff]
  constructor
  · intro h x hx
    have h0 := b0 x hx
    have h1 := congrArg (fun z => z.testBit x.toNat) h
    simp only [Nat.testBit_and, bits_test ha a0, bits_test hb b0, Int.toNat_of_nonneg h0, decide_eq_true hx, Bool.and_true, decide_eq_true_eq] at h1
    exact h1
  · intro h
    refine Nat.eq_of_testBit_eq fun j => ?_
    rw [Nat.testBit_and, bits_test ha a0, bits_test hb b0]
    by_cases q : (j : Int) ∈ b
    · rw [decide_eq_true q, decide_eq_true (h _ q)]; rfl
    · rw [decide_eq_false q, Bool.and_false]
theorem bit_eq {l : List Int} (hn : l.Nodup) (h0 : ∀ y ∈ l, 0 ≤ y) {x : Int} (hx : 0 ≤ x) : decide (Builtin.bitAnd ((bitsN l : Int) / 2 ^ x.toNat) 1 = 1) = decide (x ∈ l) := by
  have e1 : (bitsN l : Int) / 2 ^ x.toNat = ((bitsN l / 2 ^ x.toNat : Nat) : Int) := by push_cast; rfl
  rw [e1, show Builtin.bitAnd ((bitsN l / 2 ^ x.toNat : Nat) : Int) 1 = ((bitsN l / 2 ^ x.toNat &&& 1 : Nat) : Int) from _root_.PySem.W.os_band _ 1, Nat.and_one_is_mod]
  have h := bits_test hn h0 x.toNat
  rw [Int.toNat_of_nonneg hx, Nat.testBit_eq_decide_div_mod_eq] at h
  rw [← h]
  refine decide_eq_decide.mpr ?_
  constructor <;> intro q <;> omega
-- items
theorem atI_nat {α : Type} {xs : List α} {k : Nat} (h : k < xs.length) : L2.atI xs (k : Int) = some xs[k] := by
  unfold L2.atI L2.ixN
  rw [if_pos (by omega), if_pos (by omega)]
  show xs[((k : Int)).toNat]? = _
  rw [Int.toNat_natCast, List.getElem?_eq_getElem h]
theorem enumI_snd {α : Type} (xs : List α) : (enumI xs).map (·.2) = xs := by
  refine List.ext_getElem? fun i => ?_
  rw [List.getElem?_map, enumI_get]
  cases xs[i]? <;> rfl
theorem enumI_mem {α : Type} {xs : List α} {e : Int × α} : e ∈ enumI xs ↔ ∃ k : Nat, ∃ h : k < xs.length, e = ((k : Int), xs[k]) := by
  rw [List.mem_iff_getElem?]
  constructor
  · rintro ⟨k, h⟩
    rw [enumI_get] at h
    cases q : xs[k]? with
    | none => rw [q] at h; cases h
    | some y =>
      obtain ⟨hk, r⟩ := List.getElem?_eq_some_iff.mp q
      rw [q] at h
      exact ⟨k, hk, by rw [r]; exact (Option.some.inj h).symm⟩
  · rintro ⟨k, h, rfl⟩
    exact ⟨k, by rw [enumI_get, List.getElem?_eq_getElem h]; rfl⟩
theorem getL_app {κ β : Type} [DecidableEq κ] : ∀ (l : List (κ × List β)) (k : κ) (y : β) (j : κ), getL (appL l k y) j = if j = k then (getL l k).map (· ++ [y]) else getL l j
  | [], k, y, j => by unfold appL; rw [getL_nil, getL_nil]; split <;> rfl
  | p :: r, k, y, j => by
    unfold appL
    by_cases hp : p.1 = k
    · rw [if_pos hp, getL_cons, getL_cons, getL_cons, if_pos hp]
      by_cases hj : j = k
      · rw [if_pos hj, if_pos (hp.trans hj.symm)]; rfl
      · rw [if_neg hj, if_neg (fun e => hj (e.symm.trans hp)), if_neg (fun e => hj (e.symm.trans hp))]
    · rw [if_neg hp, getL_cons, getL_app r k y j, getL_cons, getL_cons, if_neg hp]
      by_cases hj : p.1 = j
      · rw [if_pos hj, if_pos hj, if_neg (fun e => hp (hj.trans e))]
      · rw [if_neg hj, if_neg hj]
end W

namespace W
open PySem Dl
-- the last one of a lot
/-- p is the last one of l by the list o -/
def IsLast (o l : List Int) (p : Int) : Prop := ∃ a b, o = a ++ p :: b ∧ p ∈ l ∧ ∀ x ∈ b, x ∉ l
def lastO (o l : List Int) : Int := ((o.filter fun x => decide (x ∈ l)).getLast?).getD 0
theorem IsLast.eq {o l : List Int} {p : Int} (h : IsLast o l p) : lastO o l = p := by
  obtain ⟨a, b, rfl, hp, hb⟩ := h
  have e : b.filter (fun x => decide (x ∈ l)) = [] := List.filter_eq_nil_iff.mpr fun x hx q => hb x hx (of_decide_eq_true q)
  unfold lastO
  rw [List.filter_append, List.filter_cons_of_pos (p := fun x => decide (x ∈ l)) (decide_eq_true hp), e, List.getLast?_append]
  rfl
theorem last_ex : ∀ {o l : List Int}, (∃ x ∈ o, x ∈ l) → ∃ p, IsLast o l p
  | [], _, ⟨x, h, _⟩ => nomatch h
  | y :: o, l, ⟨x, hx, hl⟩ => by
    by_cases q : ∃ x ∈ o, x ∈ l
    · obtain ⟨p, a, b, e, h1, h2⟩ := last_ex q
      exact ⟨p, y :: a, b, by rw [e]; rfl, h1, h2⟩
    · have hy : y ∈ l := by
        rcases List.mem_cons.mp hx with e | e
        · rw [← e]; exact hl
        · exact absurd ⟨x, e, hl⟩ q
      exact ⟨y, [], o, rfl, hy, fun z hz hz2 => q ⟨z, hz, hz2⟩⟩
theorem lastO_is {o l : List Int} (h : ∃ x ∈ o, x ∈ l) : IsLast o l (lastO o l) := by
  obtain ⟨p, hp⟩ := last_ex h
  rw [hp.eq]
  exact hp
theorem IsLast.mem {o l : List Int} {p : Int} (h : IsLast o l p) : p ∈ o ∧ p ∈ l := by
  obtain ⟨a, b, rfl, hp, _⟩ := h
  exact ⟨List.mem_append.mpr (.inr List.mem_cons_self), hp⟩
-- letting in
def barS (S : Int → List (List Int)) (x : Int) (z : List Int) : Bool := (S x).any fun a => inB a z
theorem barS_iff {S : Int → List (List Int)} {x : Int} {z : List Int} : barS S x z = true ↔ ∃ a ∈ S x, ∀ y ∈ a, y ∈ z := by
  unfold barS
  rw [List.any_eq_true]
  constructor
  · rintro ⟨a, h1, h2⟩; exact ⟨a, h1, inB_iff.mp h2⟩
  · rintro ⟨a, h1, h2⟩; exact ⟨a, h1, inB_iff.mpr h2⟩
def stepL (S : Int → List (List Int)) (c z : List Int) (x : Int) : List Int := if (decide (x ∈ c) && !barS S x z) = true then z ++ [x] else z
def goL (S : Int → List (List Int)) (c o z : List Int) : List Int := o.foldl (stepL S c) z
def letL (S : Int → List (List Int)) (c o : List Int) : List Int := goL S c o []
theorem go_app (S : Int → List (List Int)) (c a b z : List Int) : goL S c (a ++ b) z = goL S c b (goL S c a z) := List.foldl_append
theorem go_sub (S : Int → List (List Int)) (c : List Int) : ∀ o z : List Int, ∃ s, s.Sublist o ∧ (∀ x ∈ s, x ∈ c) ∧ goL S c o z = z ++ s
  | [], z => ⟨[], List.Sublist.refl _, (fun x hx => nomatch hx), (List.append_nil z).symm⟩
  | x :: o, z => by
    show ∃ s, _ ∧ _ ∧ goL S c o (stepL S c z x) = z ++ s
    unfold stepL
    split
    · rename_i h
      rw [Bool.and_eq_true] at h
      obtain ⟨s, h1, h2, h3⟩ := go_sub S c o (z ++ [x])
      refine ⟨x :: s, h1.cons_cons x, fun y hy => ?_, by rw [h3, List.append_assoc]; rfl⟩
      rcases List.mem_cons.mp hy with rfl | hy
      · exact of_decide_eq_true h.1
      · exact h2 y hy
    · obtain ⟨s, h1, h2, h3⟩ := go_sub S c o z
      exact ⟨s, h1.cons x, h2, h3⟩
theorem letL_sub (S : Int → List (List Int)) (c o : List Int) : (letL S c o).Sublist o ∧ ∀ x ∈ letL S c o, x ∈ c := by
  obtain ⟨s, h1, h2, h3⟩ := go_sub S c o []
  unfold letL
  rw [h3, List.nil_append]
  exact ⟨h1, h2⟩
theorem letL_mem {S : Int → List (List Int)} {c o : List Int} {x : Int} (h : x ∈ letL S c o) : x ∈ o ∧ x ∈ c := ⟨(letL_sub S c o).1.subset h, (letL_sub S c o).2 x h⟩
theorem letL_nodup {S : Int → List (List Int)} {c o : List Int} (h : o.Nodup) : (letL S c o).Nodup := h.sublist (letL_sub S c o).1
theorem letL_split (S : Int → List (List Int)) (c a b : List Int) (p : Int) : letL S c (a ++ p :: b) = goL S c b (stepL S c (letL S c a) p) := go_app S c a (p :: b) []
-- lots
def SO (lots : List (List Int)) (o : List Int) (p : Int) : List (List Int) := (lots.filter fun l => decide (lastO o l = p)).map fun l => l.filter fun x => !decide (x = p)
theorem SO_snoc (d : List (List Int)) (l o : List Int) (p : Int) : SO (d ++ [l]) o p = SO d o p ++ if p = lastO o l then [l.filter fun x => !decide (x = p)] else [] := by
  unfold SO
  rw [List.filter_append, List.map_append]
  congr 1
  by_cases h : p = lastO o l
  · rw [if_pos h, List.filter_cons_of_pos (p := fun l => decide (lastO o l = p)) (decide_eq_true h.symm)]; rfl
  · rw [if_neg h, List.filter_cons_of_neg (p := fun l => decide (lastO o l = p)) (fun q => h (of_decide_eq_true q).symm)]; rfl
theorem bar_iff {lots : List (List Int)} {o : List Int} {p : Int} {z : List Int} : barS (SO lots o) p z = true ↔ ∃ l ∈ lots, lastO o l = p ∧ ∀ y ∈ l, y ≠ p → y ∈ z := by
  rw [barS_iff]
  unfold SO
  constructor
  · rintro ⟨a, h1, h2⟩
    obtain ⟨l, h3, rfl⟩ := List.mem_map.mp h1
    obtain ⟨h4, h5⟩ := List.mem_filter.mp h3
    exact ⟨l, h4, of_decide_eq_true h5, fun y hy hp => h2 y (List.mem_filter.mpr ⟨hy, by rw [decide_eq_false hp]; rfl⟩)⟩
  · rintro ⟨l, h1, h2, h3⟩
    refine ⟨_, List.mem_map.mpr ⟨l, List.mem_filter.mpr ⟨h1, decide_eq_true h2⟩, rfl⟩, fun y hy => ?_⟩
    obtain ⟨h4, h5⟩ := List.mem_filter.mp hy
    exact h3 y h4 fun e => by rw [decide_eq_true e] at h5; cases h5
structure OrdOk (n : Int) (lots : List (List Int)) (o : List Int) : Prop where
  lots : LotsOk n lots
  perm : o.Perm (rg 0 n)
section
variable {n : Int} {lots : List (List Int)} {o c : List Int}
theorem OrdOk.nodup (h : OrdOk n lots o) : o.Nodup := perm_nodup h.perm
theorem OrdOk.mem (h : OrdOk n lots o) {x : Int} : x ∈ o ↔ 0 ≤ x ∧ x < n := perm_mem h.perm
theorem OrdOk.ex (h : OrdOk n lots o) {l : List Int} (hl : l ∈ lots) : ∃ x ∈ o, x ∈ l := by
  obtain ⟨hc, h2⟩ := h.lots.lot l hl
  cases l with
  | nil => exact absurd h2 (by decide)
  | cons x l => exact ⟨x, h.mem.mpr (hc.2 x List.mem_cons_self), List.mem_cons_self⟩
theorem OrdOk.last (h : OrdOk n lots o) {l : List Int} (hl : l ∈ lots) : IsLast o l (lastO o l) := lastO_is (h.ex hl)
/-- those ahead of the last one -/
theorem last_ahead {l : List Int} {a b : List Int} {p : Int} (ho : ∀ x ∈ l, x ∈ a ++ p :: b) (hb : ∀ x ∈ b, x ∉ l) {y : Int} (hy : y ∈ l) (hp : y ≠ p) : y ∈ a := by
  rcases List.mem_append.mp (ho y hy) with q | q
  · exact q
  · rcases List.mem_cons.mp q with q | q
    · exact absurd q hp
    · exact absurd hy (hb y q)
end
end W

namespace W
open PySem Dl
-- runs that answer without a source
def Pu {α : Type} (m : M α) (Q : α → Prop) : Prop := ∃ a, m = pure a ∧ Q a
theorem Pu.pure {α : Type} {a : α} {Q : α → Prop} (h : Q a) : Pu (pure a) Q := ⟨a, rfl, h⟩
theorem Pu.bind {α β : Type} {m : M α} {P : α → Prop} {k : α → M β} {Q : β → Prop} (h : Pu m P) (hk : ∀ a, P a → Pu (k a) Q) : Pu (m >>= k) Q := by
  obtain ⟨a, rfl, ha⟩ := h
  rw [pure_bind]
  exact hk a ha
theorem Pu.mono {α : Type} {m : M α} {P Q : α → Prop} (h : Pu m P) (k : ∀ a, P a → Q a) : Pu m Q := h.imp fun a q => ⟨q.1, k a q.2⟩
theorem Pu.wp {α : Type} {m : M α} {Q : α → Prop} {S : List D → Prop} (h : Pu m Q) : Wp S m Q := by
  obtain ⟨a, rfl, ha⟩ := h
  exact Wp.pure ha
theorem Pu.fold {α δ : Type} {f : δ → α → M δ} (I : List α → δ → Prop) (step : ∀ x xs z, I (x :: xs) z → Pu (f z x) (I xs)) : ∀ {l : List α} {z : δ}, I l z → Pu (foldM f l z) (I [])
  | [], z, h => ⟨z, rfl, h⟩
  | x :: l, z, h => by
    unfold foldM
    exact (step x l z h).bind fun z' h' => Pu.fold I step h'
theorem pu_eq {α : Type} {m : M α} {v : α} (h : Pu m fun z => z = v) : m = pure v := by
  obtain ⟨a, rfl, rfl⟩ := h
  rfl
section
variable {n : Int} {lots : List (List Int)} {o c : List Int}
theorem maxT_eq {α : Type} {lt : α → α → Bool} {m : α} (hi : lt m m = false) : ∀ (xs : List α) (a : α), m ∈ a :: xs → (∀ y ∈ a :: xs, y = m ∨ (lt y m = true ∧ lt m y = false)) → maxT lt a xs = m
  | [], a, hm, _ => (List.mem_singleton.mp hm).symm
  | y :: ys, a, hm, h => by
    show maxT lt (if lt a y = true then y else a) ys = m
    have ha := h a List.mem_cons_self
    have hy := h y (List.mem_cons_of_mem _ List.mem_cons_self)
    refine maxT_eq hi ys _ ?_ fun w hw => ?_
    · rcases List.mem_cons.mp hm with e | e
      · subst e
        have : lt m y = false := by
          rcases hy with q | q
          · rw [q]; exact hi
          · exact q.2
        rw [this, if_neg Bool.false_ne_true]
        exact List.mem_cons_self
      · rcases List.mem_cons.mp e with e | e
        · subst e
          rcases ha with q | q
          · rw [q, hi, if_neg Bool.false_ne_true]
            exact List.mem_cons_self
          · rw [q.1, if_pos rfl]
            exact List.mem_cons_self
        · exact List.mem_cons_of_mem _ e
    · rcases List.mem_cons.mp hw with e | e
      · rw [e]
        split
        · exact hy
        · exact ha
      · exact h w (List.mem_cons_of_mem _ (List.mem_cons_of_mem _ e))
/-- the last one of a lot by the places -/
theorem max_last {l : List Int} (hn : o.Nodup) (hl : ∀ x ∈ l, x ∈ o) {p : Int} (hp : IsLast o l p) : mMax (ltP ltI ltI) (l.map fun x => ((o.idxOf x : Int), x)) = pure ((o.idxOf p : Int), p) := by
  cases l with
  | nil => obtain ⟨_, _, _, q, _⟩ := hp; cases q
  | cons x xs =>
    show (pure (maxT (ltP ltI ltI) ((o.idxOf x : Int), x) (xs.map fun x => ((o.idxOf x : Int), x))) : M (Int × Int)) = _
    congr 1
    have hself : ∀ m : Int × Int, ltP ltI ltI m m = false := fun m => by unfold ltP; rw [if_pos rfl, if_pos rfl]
    refine maxT_eq (hself _) _ _ ?_ ?_
    · exact List.mem_map_of_mem (f := fun x => ((o.idxOf x : Int), x)) hp.mem.2
    · intro y hy
      obtain ⟨z, hz, rfl⟩ := List.mem_map.mp (show y ∈ (x :: xs).map fun x => ((o.idxOf x : Int), x) from hy)
      by_cases q : z = p
      · exact .inl (by rw [q])
      · obtain ⟨a, b, rfl, h1, h2⟩ := hp
        have hza := last_ahead hl h2 hz q
        have hn2 := List.nodup_append.mp hn
        have hpa : p ∉ a := fun h => hn2.2.2 p h p List.mem_cons_self rfl
        have e1 : (a ++ p :: b).idxOf z < a.length := by
          rw [List.idxOf_append, if_pos hza]
          exact List.idxOf_lt_length_of_mem hza
        have e2 : (a ++ p :: b).idxOf p = a.length := by
          rw [List.idxOf_append, if_neg hpa, List.idxOf_cons_self, Nat.zero_add]
        rw [e2]
        generalize (a ++ p :: b).idxOf z = i at e1
        have ne : ¬ (i : Int) = a.length := by omega
        refine .inr ⟨?_, ?_⟩
        · unfold ltP
          rw [if_neg ne]
          exact decide_eq_true (show (i : Int) < a.length by omega)
        · unfold ltP
          rw [if_neg (fun e => ne e.symm)]
          exact decide_eq_false (show ¬ (a.length : Int) < i by omega)
theorem places_at (hn : o.Nodup) {x : Int} (hx : x ∈ o) : getL ((enumI o).map fun e => (e.2, e.1)) x = some (o.idxOf x : Int) := by
  refine getL_of_mem (by rw [List.map_map]; exact (enumI_snd o).symm ▸ hn) (List.mem_map.mpr ⟨((o.idxOf x : Int), x), enumI_mem.mpr ⟨o.idxOf x, List.idxOf_lt_length_of_mem hx, ?_⟩, rfl⟩)
  rw [List.getElem_idxOf]
theorem lasts_eq (h : OrdOk n lots o) {ms : List Int} : m_lasts_in (n, lots, ms) o = pure (lots.map (lastO o)) := by
  unfold m_lasts_in
  simp only [pure_bind]
  rw [dcM_nodup (k := fun x : Int × Int => x.2) (v := fun x => x.1) (fun _ _ => rfl) (fun _ _ => rfl) (by rw [enumI_snd]; exact h.nodup), pure_bind]
  refine lcM_map fun l hl => ?_
  have hol : ∀ x ∈ l, x ∈ o := fun x hx => h.mem.mpr ((h.lots.lot l hl).1.2 x hx)
  rw [lcM_map (g := fun x : Int => ((o.idxOf x : Int), x)) fun x hx => by rw [places_at h.nodup (hol x hx), ofO_some, pure_bind], pure_bind, max_last h.nodup hol (h.last hl), pure_bind]
theorem xor_one {l : List Int} (hl : Crowd n l) {q : Int} (hq : q ∈ l) : Builtin.bitXor (bitsZ l) (1 * 2 ^ q.toNat) = bitsZ (l.filter fun x => !decide (x = q)) := by
  have h0 : ∀ x ∈ l, 0 ≤ x := fun x hx => (hl.2 x hx).1
  have e1 : (1 * 2 ^ q.toNat : Int) = ((2 ^ q.toNat : Nat) : Int) := by push_cast; rw [Int.one_mul]
  unfold bitsZ
  rw [e1, Bits.bitXor_pp (by omega) (Int.natCast_nonneg _), Int.toNat_natCast, Int.toNat_natCast, ← bits_one]
  congr 1
  refine bits_xor hl.nodup (List.nodup_cons.mpr ⟨(fun h => nomatch h), List.nodup_nil⟩) (hl.nodup.sublist List.filter_sublist) h0 (fun x hx => by rw [List.mem_singleton.mp hx]; exact h0 q hq) fun x => ?_
  rw [List.mem_filter, List.mem_singleton, Bool.not_eq_true', decide_eq_false_iff_not]
  constructor
  · exact .inl
  · rintro (z | z)
    · exact z
    · exact absurd (z.2 ▸ hq) z.1
def OffOk (n : Int) (lots : List (List Int)) (o : List Int) (f : D_Office) : Prop := ∃ bars, f = ((n, lots, lots.map bitsZ), o, lots.map (lastO o), bars) ∧ ∀ p ∈ o, ∃ ys, getL bars p = some ys ∧ ys.map (·.1) = (SO lots o p).map bitsZ
theorem office_eq (h : OrdOk n lots o) (h0 : 0 ≤ n) (hn : n ≤ 1000) (hl : lots.length ≤ 1000) : Pu (m_Office___init__ (n, lots, lots.map bitsZ) o) (OffOk n lots o) := by
  unfold m_Office___init__
  have e1 : isO sub_Book (e_Book (n, lots, lots.map bitsZ)) = true := rfl
  simp only [pure_bind, e1, Bool.not_true, mIf_false, order_eq h.perm h0, lasts_eq h]
  rw [dcM_nodup (k := fun x : Int => x) (v := fun _ => ([] : List (Int × Int))) (fun _ _ => rfl) (fun _ _ => rfl) (by rw [List.map_id']; exact h.nodup), pure_bind]
  refine (Pu.fold (fun xs z => ∃ k, xs = (enumI (lots.map (lastO o))).drop k ∧ ∀ p ∈ o, ∃ ys, getL z p = some ys ∧ ys.map (·.1) = (SO (lots.take k) o p).map bitsZ ∧ ys.length ≤ k) (fun x xs z hz => ?_) ⟨0, rfl, fun p hp => ⟨[], getL_of_mem ?_ (List.mem_map.mpr ⟨p, hp, rfl⟩), rfl, Nat.le_refl _⟩⟩).bind fun z hz => ?_
  · obtain ⟨k, hxs, hz⟩ := hz
    obtain ⟨hk, rfl, rfl⟩ := enum_at hxs
    have hk2 : k < lots.length := by rw [List.length_map] at hk; exact hk
    have eq1 : (lots.map (lastO o))[k] = lastO o lots[k] := List.getElem_map _
    have hlast := h.last (List.getElem_mem hk2)
    have hq := hlast.mem
    have hcr := (h.lots.lot _ (List.getElem_mem hk2)).1
    rw [eq1]
    generalize hql : lastO o lots[k] = q at hlast hq
    obtain ⟨ys, g1, g2, g3⟩ := hz q hq.1
    have r := hcr.2 q hq.2
    have e3 : L2.atI (lots.map bitsZ) (k : Int) = some (bitsZ lots[k]) := by
      rw [atI_nat (by rw [List.length_map]; exact hk2), List.getElem_map]
    simp only [g1, e3, ofO_some, pure_bind, mShl_ok (i := 1) (j := q) ⟨r.1, by omega, by decide⟩, opI_pure, xor_one hcr hq.2, chk_ok (show ys.length + 1 ≤ 1000000 by omega)]
    refine Pu.pure ⟨k + 1, rfl, fun p hp => ?_⟩
    rw [getL_app, List.take_add_one, List.getElem?_eq_getElem hk2]
    show ∃ ys, _ ∧ _ = (SO (lots.take k ++ [lots[k]]) o p).map bitsZ ∧ _
    rw [SO_snoc, hql]
    by_cases hpq : p = q
    · subst hpq
      rw [if_pos rfl, if_pos rfl, g1]
      refine ⟨_, rfl, ?_, ?_⟩
      · rw [List.map_append, List.map_append, g2]
        rfl
      · rw [List.length_append, List.length_singleton]; omega
    · rw [if_neg hpq, if_neg hpq, List.append_nil]
      obtain ⟨ys2, k1, k2, k3⟩ := hz p hp
      exact ⟨ys2, k1, k2, by omega⟩
  · rw [List.map_map]
    show (o.map fun x => x).Nodup
    rw [List.map_id']
    exact h.nodup
  · obtain ⟨k, hk, hz⟩ := hz
    have hlen := congrArg List.length hk
    rw [List.length_drop, enumI_length, List.length_map, List.length_nil] at hlen
    rw [List.take_of_length_le (by omega)] at hz
    exact Pu.pure ⟨z, rfl, fun p hp => by
      obtain ⟨ys, g1, g2, _⟩ := hz p hp
      exact ⟨ys, g1, g2⟩⟩
theorem SO_crowd (h : LotsOk n lots) {p : Int} {a : List Int} (ha : a ∈ SO lots o p) : a.Nodup ∧ ∀ x ∈ a, 0 ≤ x := by
  unfold SO at ha
  obtain ⟨l, hl, rfl⟩ := List.mem_map.mp ha
  have hc := (h.lot l (List.mem_filter.mp hl).1).1
  exact ⟨hc.nodup.sublist List.filter_sublist, fun x hx => (hc.2 x (List.mem_filter.mp hx).1).1⟩
theorem barred_eq {f : D_Office} (h : LotsOk n lots) (hf : OffOk n lots o f) {z : List Int} (hz : z.Nodup) (z0 : ∀ x ∈ z, 0 ≤ x) {p : Int} (hp : p ∈ o) : m_is_barred f (bitsN z : Int) p = pure (barS (SO lots o) p z) := by
  obtain ⟨bars, rfl, hb⟩ := hf
  obtain ⟨ys, e1, e2⟩ := hb p hp
  unfold m_is_barred
  simp only [pure_bind, e1, ofO_some]
  rw [lcM_map (g := fun x : Int × Int => decide (bitsN z &&& x.1.toNat = x.1.toNat)) fun y hy => ?_, pure_bind]
  · congr 1
    have e3 : (ys.map fun x : Int × Int => decide (bitsN z &&& x.1.toNat = x.1.toNat)).any id = (ys.map (·.1)).any fun v => decide (bitsN z &&& v.toNat = v.toNat) := by
      rw [List.any_map, List.any_map]; rfl
    rw [e3, e2, List.any_map]
    unfold barS
    refine any_congr_mem fun a ha => ?_
    obtain ⟨a1, a2⟩ := SO_crowd h ha
    show decide (bitsN z &&& (bitsZ a).toNat = (bitsZ a).toNat) = inB a z
    unfold bitsZ
    rw [Int.toNat_natCast]
    have q := and_bitsN hz a1 z0 a2
    cases e : inB a z with
    | true => exact decide_eq_true (q.mpr e)
    | false => exact decide_eq_false fun w => by rw [q.mp w] at e; cases e
  · have hm : y.1 ∈ ys.map (·.1) := List.mem_map_of_mem hy
    rw [e2] at hm
    obtain ⟨a, _, ea⟩ := List.mem_map.mp hm
    rw [← ea]
    unfold bitsZ
    rw [holds_eq, Int.toNat_natCast]
theorem in_bits_eq {f : D_Office} (h : OrdOk n lots o) (hf : OffOk n lots o f) (hn : n ≤ 1000) (hc : Crowd n c) : m_in_bits f (bitsN c : Int) = pure (bitsN (letL (SO lots o) c o) : Int) := by
  have hb := fun z hz z0 p hp => barred_eq h.lots hf (z := z) hz z0 (p := p) hp
  obtain ⟨bars, rfl, _⟩ := hf
  unfold m_in_bits
  simp only [pure_bind, bind_pure]
  have c0 : ∀ x ∈ c, 0 ≤ x := fun x hx => (hc.2 x hx).1
  refine pu_eq ((Pu.fold (fun xs (v : Int) => ∃ d, d ++ xs = o ∧ v = (bitsN (letL (SO lots o) c d) : Int)) (fun x xs z hz => ?_) ⟨[], rfl, rfl⟩).mono fun v hv => ?_)
  rotate_left
  · obtain ⟨d, hd, hv⟩ := hv
    rw [List.append_nil] at hd
    rw [hv, hd]
  · obtain ⟨d, hd, rfl⟩ := hz
    have hx : x ∈ o := by rw [← hd]; exact List.mem_append.mpr (.inr List.mem_cons_self)
    have hr := h.mem.mp hx
    have hn2 := h.nodup
    rw [← hd] at hn2
    have hdn := (List.nodup_append.mp hn2).1
    have hxd : x ∉ d := fun q => (List.nodup_append.mp hn2).2.2 x q x List.mem_cons_self rfl
    have zn := letL_nodup (S := SO lots o) (c := c) hdn
    have z0 : ∀ y ∈ letL (SO lots o) c d, 0 ≤ y := fun y hy => c0 y (letL_mem hy).2
    have hxl : x ∉ letL (SO lots o) c d := fun q => hxd (letL_mem q).1
    have est : letL (SO lots o) c (d ++ [x]) = stepL (SO lots o) c (letL (SO lots o) c d) x := letL_split (SO lots o) c d [] x
    rw [mShr_ok hr.1, opI_pure, pure_bind, bit_eq hc.nodup c0 hr.1, hb _ zn z0 x hx, pure_bind, mAnd_pure2, mIf_pure]
    generalize letL (SO lots o) c d = z at zn z0 hxl est ⊢
    have e1 : (1 * 2 ^ x.toNat : Int) = ((2 ^ x.toNat : Nat) : Int) := by push_cast; rw [Int.one_mul]
    refine ⟨(bitsN (letL (SO lots o) c (d ++ [x])) : Int), ?_, d ++ [x], by rw [List.append_assoc]; exact hd, rfl⟩
    rw [est]
    unfold stepL
    split
    · rw [mShl_ok ⟨hr.1, by omega, by decide⟩, pure_bind, e1, Bits.bitOr_pp (by omega) (Int.natCast_nonneg _), Int.toNat_natCast, Int.toNat_natCast, bits_snoc zn z0 hxl hr.1]
    · rfl
end
end W

namespace W
open PySem Dl
-- all crowds
end W

namespace W
open PySem Dl
-- from below
section
variable {n : Int} {lots : List (List Int)} {o c : List Int}
theorem band_nat (a b : Nat) : Builtin.bitAnd (a : Int) (b : Int) = ((a &&& b : Nat) : Int) := _root_.PySem.W.os_band a b
end
end W

namespace W
open PySem Dl
-- who is let in, told without the list
section
variable {n : Int} {lots : List (List Int)} {o c : List Int}
end
end W

namespace W
open PySem Dl
-- alike offices
def sameLet (n : Int) (l1 l2 : List (List Int)) (o1 o2 : List Int) : Prop := ∀ c, Crowd n c → asc n (letL (SO l1 o1) c o1) = asc n (letL (SO l2 o2) c o2)
section
variable {n : Int} {lots l1 l2 : List (List Int)} {o o1 o2 c : List Int}
theorem sameLet.symm (h : sameLet n l1 l2 o1 o2) : sameLet n l2 l1 o2 o1 := fun c hc => (h c hc).symm
end
end W

namespace W
open PySem Dl
-- exchanges
section
variable {n : Int} {lots : List (List Int)} {o : List Int}
end
-- lots near others
theorem LotsOk.sublist {n : Int} {a b : List (List Int)} (h : LotsOk n b) (hs : a.Sublist b) : LotsOk n a := ⟨h.asc.sublist hs, fun l hl => h.lot l (hs.subset hl), fun x hx y hy => h.apart x (hs.subset hx) y (hs.subset hy)⟩
end W

namespace W
open PySem Dl
-- the crowds of a size, fewest first
end W

namespace W
open PySem Dl
-- the crowd from which two offices part
section
variable {n : Int} {lots l1 l2 : List (List Int)} {o o1 o2 c : List Int}
/-- a lot that the offices do not have alike -/
def Diff (l1 l2 : List (List Int)) (o1 o2 l : List Int) : Prop := (l ∈ l1 ∨ l ∈ l2) ∧ ¬ ((l ∈ l1 ∧ l ∈ l2) ∧ lastO o1 l = lastO o2 l)
theorem Diff.symm (h : Diff l1 l2 o1 o2 c) : Diff l2 l1 o2 o1 c := ⟨h.1.symm, fun q => h.2 ⟨⟨q.1.2, q.1.1⟩, q.2.symm⟩⟩
end
end W

namespace W
-- bases
open PySem Dl
theorem sub_crowd {n : Int} {a c : List Int} (hc : Crowd n c) (h : a.Sublist c) : Crowd n a := ⟨hc.1.sublist h, fun x hx => hc.2 x (h.subset hx)⟩
end W

namespace W
-- bases2
open PySem Dl
end W

namespace W
-- reasons
open PySem Dl
section
variable {n : Int} {lots : List (List Int)} {o c : List Int} {p : Int}
end
end W

namespace W
-- the dict of reasons
open PySem Dl
section
variable {n : Int} {lots : List (List Int)} {o c : List Int} {p : Int}
end
end W

namespace W
-- the hand
open PySem Dl
def SrcH (s : List D) : Prop := ∃ (cells : List Int) (i c m t : Int), s = [.lst (cells.map D.int), .int i, .int c, .int m, .int t] ∧ 0 ≤ i
theorem isDs_srcH (s : List D) (h : SrcH s) : isDs s = false := by
  obtain ⟨cells, i, c, m, t, rfl, _⟩ := h
  rfl
section
variable {α : Type} {s : List D} {k : Nat}
theorem run_bind {β : Type} (m : M α) (f : α → M β) : (m >>= f) s = match m s with | .ok a s' => f a s' | .stuck => .stuck := rfl
theorem run_getI {i : Int} (h : s[k]? = some (.int i)) (f : Int → M α) : (getI k >>= f) s = f i s := by
  rw [run_bind]; unfold getI; rw [h]
theorem run_getD {d : D} (h : s[k]? = some d) (f : D → M α) (h2 : isDs s = false := by rfl) : (getD k >>= f) s = f d s := by
  rw [run_bind]; unfold Dl.getD; rw [h2, if_neg (fun z => nomatch z), h]
theorem run_putD {d : D} (h : k < s.length) (f : Unit → M α) (h2 : isDs s = false := by rfl) (h3 : isDs (s.set k d) = false := by rfl) : (putD k d >>= f) s = f () (s.set k d) := by
  rw [run_bind]; unfold putD; rw [if_pos ⟨h, h2, h3⟩]
end
theorem wp_getIH {k : Nat} (hk : 1 ≤ k ∧ k < 5) : Wp SrcH (getI k) fun _ => True := fun s ⟨cells, i, c, m, t, h, hi⟩ => by
  subst h
  match k, hk with
  | 1, _ => exact ⟨⟨cells, i, c, m, t, rfl, hi⟩, trivial⟩
  | 2, _ => exact ⟨⟨cells, i, c, m, t, rfl, hi⟩, trivial⟩
  | 3, _ => exact ⟨⟨cells, i, c, m, t, rfl, hi⟩, trivial⟩
  | 4, _ => exact ⟨⟨cells, i, c, m, t, rfl, hi⟩, trivial⟩
theorem wp_putIH {k : Nat} (hk : 2 ≤ k ∧ k < 5) {j : Int} : Wp SrcH (putD k (.int j)) fun _ => True := fun s ⟨cells, i, c, m, t, h, hi⟩ => by
  subst h
  match k, hk with
  | 2, _ => exact ⟨⟨cells, i, j, m, t, rfl, hi⟩, trivial⟩
  | 3, _ => exact ⟨⟨cells, i, c, j, t, rfl, hi⟩, trivial⟩
  | 4, _ => exact ⟨⟨cells, i, c, m, j, rfl, hi⟩, trivial⟩
theorem draw_wpH {many : Int} (h : 0 < many) (h2 : many < 1073741824) : Wp SrcH (m_l_draw many) fun r => 0 ≤ r ∧ r < many := by
  have hr : ∀ x : Int, 0 ≤ x % many ∧ x % many < many := fun x => ⟨Int.emod_nonneg _ (by omega), Int.emod_lt_of_pos _ h⟩
  unfold m_l_draw
  refine Wp.bind (P := fun _ => True) ?_ fun _ _ => ?_
  · intro s ⟨cells, i, c, m, t, hs, hi⟩
    subst hs
    unfold Dl.mIf mAnd opB
    simp only [bind_assoc, pure_bind]
    rw [run_getI (i := c) rfl]
    have e : deL deI (.lst (cells.map D.int)) = some cells := deI_map cells
    have fin : ∀ {i c m t : Int}, 0 ≤ i → SrcH [D.lst (cells.map D.int), D.int i, D.int c, D.int m, D.int t] ∧ True := fun h => ⟨⟨_, _, _, _, _, rfl, h⟩, trivial⟩
    by_cases hc : c = 0
    · rw [decide_eq_true hc, if_pos rfl]
      simp only [bind_assoc]
      rw [run_getI (i := i) rfl, run_getD (d := .lst (cells.map D.int)) rfl, e, ofO_some, pure_bind, pure_bind]
      by_cases hl : i < cells.length
      · rw [show bLt i cells.length = true from decide_eq_true hl, if_pos rfl]
        rw [run_getD (d := .lst (cells.map D.int)) rfl, e, ofO_some, pure_bind, run_getI (i := i) rfl, atI_in hi hl 0, ofO_some, pure_bind, run_getI (i := i) rfl, run_putD (by simp)]
        rw [run_getI (i := m) rfl, mMul_ok (.inr (by decide)), pure_bind, mMod_ok (by decide), pure_bind, run_putD (by simp), mPow_ok ⟨by decide, by decide, by decide⟩, pure_bind]
        split
        · rw [bind_assoc, run_putD (by simp)]
          exact fin (show 0 ≤ i + 1 by omega)
        · exact fin (show 0 ≤ i + 1 by omega)
      · rw [show bLt i cells.length = false from decide_eq_false hl, if_neg Bool.false_ne_true]
        exact fin hi
    · rw [decide_eq_false hc, if_neg Bool.false_ne_true, pure_bind, if_neg Bool.false_ne_true]
      exact fin hi
  · refine Wp.mIf (T := fun _ => True) ?_ (fun _ => ?_) fun _ => ?_
    · simp only [opB, bind_assoc, pure_bind]
      exact (wp_getIH (by decide)).bind fun a _ => Wp.pure trivial
    · simp only [bind_assoc, pure_bind, mMod_ok h, bind_pure]
      refine (wp_getIH (by decide)).bind fun a _ => (wp_getIH (by decide)).bind fun b _ => ?_
      rw [mDiv_ok ⟨h, h2⟩, pure_bind]
      exact (wp_putIH (by decide)).bind fun _ _ => Wp.pure (hr a)
    · simp only [Dl.opI, bind_assoc, pure_bind]
      refine (wp_getIH (by decide)).bind fun a _ => (wp_putIH (by decide)).bind fun _ _ => (wp_getIH (by decide)).bind fun b _ => (wp_getIH (by decide)).bind fun c _ => ?_
      rw [mMul_ok (.inl (by decide)), pure_bind, mMul_ok (.inr (by decide)), pure_bind]
      have d1 : ∀ x : Int, mDiv x 1009 = pure (x / 1009) := fun x => mDiv_ok ⟨by decide, by decide⟩
      have d2 : ∀ x : Int, mDiv x 2003 = pure (x / 2003) := fun x => mDiv_ok ⟨by decide, by decide⟩
      have d3 : ∀ x : Int, mDiv x 16 = pure (x / 16) := fun x => mDiv_ok ⟨by decide, by decide⟩
      have m1 : ∀ x : Int, mMod x 2147483647 = pure (x % 2147483647) := fun x => mMod_ok (by decide)
      have m2 : ∀ x : Int, mMod x 2147483399 = pure (x % 2147483399) := fun x => mMod_ok (by decide)
      rw [m1, pure_bind, d1, pure_bind]
      have b1 : 0 ≤ (b + 7919 * c) * 48271 % 2147483647 := Int.emod_nonneg _ (by decide)
      have b2 : (b + 7919 * c) * 48271 % 2147483647 < 2147483647 := Int.emod_lt_of_pos _ (by decide)
      generalize (b + 7919 * c) * 48271 % 2147483647 = n1 at b1 b2 ⊢
      rw [mMul_ok (.inl (by constructor <;> omega)), pure_bind, m1, pure_bind, d2, pure_bind]
      have b3 : 0 ≤ n1 * (n1 / 1009 + 69621) % 2147483647 := Int.emod_nonneg _ (by decide)
      have b4 : n1 * (n1 / 1009 + 69621) % 2147483647 < 2147483647 := Int.emod_lt_of_pos _ (by decide)
      generalize n1 * (n1 / 1009 + 69621) % 2147483647 = n2 at b3 b4 ⊢
      rw [mMul_ok (.inl (by constructor <;> omega)), pure_bind, m2, pure_bind, d3, pure_bind, mMod_ok h]
      exact Wp.pure (hr _)
theorem order_wpH {many : Int} (h : 0 ≤ many) (h2 : many ≤ 1000) : Wp SrcH (m_l_order many) fun r => r.Perm (rg 0 many) := by
  unfold m_l_order
  simp only [nilM_pure, pure_bind, bind_assoc, List.length_nil, chk_ok (Nat.zero_le LIM), mRg_ok (a := 0) (b := many) (by omega) (by omega) (by omega) (by omega) (by omega), bind_pure]
  refine (foldM_wp (fun (xs : List Int) (z : List Int × List Int) => (z.1 ++ z.2).Perm (rg 0 many) ∧ z.2.length = xs.length) (fun x xs z hz => ?_) (by exact ⟨List.Perm.refl _, rfl⟩)).bind fun z hz => Wp.pure ?_
  · have hlen := hz.1.length_eq
    rw [List.length_append, rg0_length] at hlen
    have h3 : z.2.length = xs.length + 1 := hz.2
    refine (draw_wpH (by omega) (by omega)).bind fun r hr => ?_
    obtain ⟨hlt, e⟩ := popI_at (xs := z.2) hr.1 hr.2 (by omega)
    rw [e, ofO_some, pure_bind, chk_ok (by show _ ≤ 1000000; omega), pure_bind]
    refine Wp.pure ⟨?_, ?_⟩
    · rw [List.append_assoc]
      exact ((perm_erase _ _ hlt).append_left _).trans hz.1
    · rw [List.length_eraseIdx_of_lt hlt]
      omega
  · have : z.2 = [] := List.length_eq_zero_iff.mp hz.2
    rw [this, List.append_nil] at hz
    exact hz.1
theorem hand_ok {S : List D → Prop} (script : List Int) (h : script.length ≤ 1000) : Wp S (m_l_hand script) fun l => l ≠ [] ∧ l.length ≤ LIM ∧ SrcH (l.map eId) := by
  unfold m_l_hand
  simp only [pure_bind]
  rw [lcM_map (g := fun i : Int => if i < 0 then -i else i) fun _ _ => rfl, pure_bind]
  simp only [nilM_pure, consM_pure, pure_bind, opI_pure, List.length_cons, List.length_nil, chk_ok (show 0 + 1 + 1 + 1 + 1 + 1 ≤ LIM by decide)]
  exact Wp.pure ⟨(fun e => nomatch e), by show 5 ≤ 1000000; decide, ⟨_, 0, 0, _, 0, rfl, Int.le_refl _⟩⟩
end W

namespace W
open PySem Dl
-- the ascending parts of a row
def nextP (part : List Int) (x : Int) : Bool := match part.getLast? with
  | none => true
  | some y => decide (y < x)
def extP (row part : List Int) : List (List Int) := (row.filter (nextP part)).map fun x => part ++ [x]
def partsL (row : List Int) : Nat → List (List Int)
  | 0 => [[]]
  | k + 1 => (partsL row k).flatMap (extP row)
-- the least ones of some heaps
theorem setSortI_ok {n : Int} {xs : List Int} (h : xs.length < 64) (hx : ∀ x ∈ xs, 0 ≤ x ∧ x < n) : ∃ r, setSortI xs = pure r ∧ Crowd n r ∧ (∀ x, x ∈ r ↔ x ∈ xs) := by
  have hm : ∀ x, x ∈ xs.eraseDups.mergeSort (leOf ltI) ↔ x ∈ xs := fun x => by rw [(List.mergeSort_perm _ _).mem_iff, List.mem_eraseDups]
  have hl := List.Nodup.length_le_of_subset (nodup_dups xs) (l₂ := xs) fun x q => List.mem_eraseDups.mp q
  exact ⟨_, if_pos ⟨by omega, by omega⟩, ⟨sortI_spec _ (nodup_dups xs), fun x q => hx x ((hm x).mp q)⟩, hm⟩
theorem setSort_ok {hs : List (List Int)} (h : hs.length < 64) (h2 : ∀ l ∈ hs, l ≠ []) : ∃ r, setSort hs = pure r ∧ r.Pairwise (fun a b => ltT a b = true) ∧ (∀ x, x ∈ r ↔ x ∈ hs) ∧ r.length ≤ hs.length := by
  have h0 : hs.all okL = true := List.all_eq_true.mpr fun l hl => by
    have := h2 l hl
    cases l with
    | nil => exact absurd rfl this
    | cons _ _ => rfl
  refine ⟨hs.eraseDups.mergeSort (leOf ltT), if_pos ⟨h, h0⟩, sort_asc Srts.tupI (ltL_total ltI_total) (nodup_dups hs), fun x => by rw [(List.mergeSort_perm _ _).mem_iff, List.mem_eraseDups], ?_⟩
  rw [List.length_mergeSort]
  exact List.Nodup.length_le_of_subset (nodup_dups hs) fun x hx => List.mem_eraseDups.mp hx
def lesser (heaps : List (List Int)) (h : List Int) : List (List Int) := heaps.filter fun o => !decide (o = h) && inB o h
def leastC (heaps : List (List Int)) (h : List Int) : Bool := decide (1 < h.length) && decide (((lesser heaps h).filter fun o => decide (1 < o.length)) = [])
theorem least_lots_wp {S : List D → Prop} {n : Int} {heaps : List (List Int)} (h : heaps.length < 64) (hc : ∀ l ∈ heaps, Crowd n l) : Wp S (m_l_least_lots heaps) fun r => LotsOk n r ∧ r.length ≤ heaps.length := by
  unfold m_l_least_lots
  simp only [nilM_pure, pure_bind, List.length_nil, chk_ok (Nat.zero_le LIM)]
  have hlt : ∀ x : List Int, (decide ((x.length : Int) > 1)) = decide (1 < x.length) := fun x => decide_eq_decide.mpr (by omega)
  refine Wp.bind (P := fun z => z = heaps.filter (leastC heaps)) ((foldM_wp (fun (xs : List (List Int)) (z : List (List Int)) => ∃ d, d ++ xs = heaps ∧ z = d.filter (leastC heaps)) (fun x xs z hz => ?_) ⟨[], rfl, rfl⟩).mono fun z hz => ?_) fun z hz => ?_
  · obtain ⟨d, hd, rfl⟩ := hz
    rw [lcM_pure (q := fun o => !decide (o = x) && inB o x) (g := fun o => o) (fun o _ => ?_) (fun _ _ _ => rfl), pure_bind, List.map_id']
    · rw [lcM_pure (q := fun o : List Int => decide (1 < o.length)) (g := fun o => o) (fun o _ => by rw [← hlt]) (fun _ _ _ => rfl), pure_bind, List.map_id']
      have hdl : (d.filter (leastC heaps)).length ≤ d.length := List.length_filter_le _ _
      have hul := congrArg List.length hd
      rw [List.length_append] at hul
      have e0 : ∀ l : List (List Int), decide ((l.length : Int) = 0) = decide (l = []) := fun l => decide_eq_decide.mpr (by rw [← List.length_eq_zero_iff]; omega)
      rw [pure_bind, mAnd_pure2, mIf_pure, e0]
      have e1 : (bGt (x.length : Int) 1 && decide (((heaps.filter fun o => !decide (o = x) && inB o x).filter fun o => decide (1 < o.length)) = [])) = leastC heaps x := by
        unfold leastC lesser
        rw [← hlt]
      rw [e1]
      cases hq : leastC heaps x with
      | true =>
        rw [if_pos rfl, chk_ok (by show _ ≤ 1000000; omega), pure_bind]
        exact Wp.pure ⟨d ++ [x], by rw [List.append_assoc]; exact hd, by rw [List.filter_append, List.filter_cons_of_pos hq]; rfl⟩
      | false =>
        rw [if_neg Bool.false_ne_true]
        exact Wp.pure ⟨d ++ [x], by rw [List.append_assoc]; exact hd, by rw [List.filter_append, List.filter_cons_of_neg (by rw [hq]; exact Bool.false_ne_true), List.filter_nil, List.append_nil]⟩
    · rw [lcM_map (g := fun y => decide (y ∈ x)) fun _ _ => rfl, pure_bind, mAnd_pure2]
      congr 2
      unfold inB
      rw [List.all_map]
      rfl
  · obtain ⟨d, hd, rfl⟩ := hz
    rw [List.append_nil] at hd
    rw [hd]
  · subst hz
    have hmem : ∀ l, l ∈ heaps.filter (leastC heaps) → l ∈ heaps ∧ 2 ≤ l.length ∧ ((lesser heaps l).filter fun o => decide (1 < o.length)) = [] := fun l hl => by
      obtain ⟨h1, h2⟩ := List.mem_filter.mp hl
      unfold leastC at h2
      rw [Bool.and_eq_true, decide_eq_true_eq, decide_eq_true_eq] at h2
      exact ⟨h1, h2.1, h2.2⟩
    have hlen := List.length_filter_le (leastC heaps) heaps
    obtain ⟨r, hr, h1, h2, h3⟩ := setSort_ok (hs := heaps.filter (leastC heaps)) (by omega) (fun l hl e => by have := (hmem l hl).2.1; rw [e] at this; exact absurd this (by decide))
    rw [hr]
    refine Wp.pure ⟨⟨h1, fun l hl => ⟨hc l (hmem l ((h2 l).mp hl)).1, (hmem l ((h2 l).mp hl)).2.1⟩, fun a ha b hb hab => ?_⟩, by omega⟩
    have ka := hmem a ((h2 a).mp ha)
    have kb := hmem b ((h2 b).mp hb)
    cases q : inB a b with
    | false => rfl
    | true =>
      have : a ∈ (lesser heaps b).filter fun o => decide (1 < o.length) := List.mem_filter.mpr ⟨List.mem_filter.mpr ⟨ka.1, by rw [decide_eq_false hab, q]; rfl⟩, decide_eq_true ka.2.1⟩
      rw [kb.2.2] at this
      cases this
end W

namespace W
open PySem Dl
-- the lots of a drawn book
end W

namespace W
open PySem Dl
-- crowds as bits, the law's own
theorem lbits_eq {l : List Int} (h : ∀ x ∈ l, 0 ≤ x ∧ x < 1000) : m_l_bits l = pure (bitsN l : Int) := by
  unfold m_l_bits
  simp only [pure_bind, bind_pure]
  refine pu_eq ((Pu.fold (fun (xs : List Int) (z : Int) => ∃ d, d ++ xs = l ∧ z = (bitsN d : Int)) (fun x xs z hz => ?_) ⟨[], rfl, rfl⟩).mono fun z hz => ?_)
  · obtain ⟨d, hd, rfl⟩ := hz
    have hx := h x (by rw [← hd]; exact List.mem_append.mpr (.inr List.mem_cons_self))
    rw [mShl_ok ⟨hx.1, by omega, by decide⟩, pure_bind]
    refine Pu.pure ⟨d ++ [x], by rw [List.append_assoc]; exact hd, ?_⟩
    unfold bitsN
    rw [List.map_append, List.sum_append]
    show _ = ((_ + (2 ^ x.toNat + 0) : Nat) : Int)
    push_cast
    omega
  · obtain ⟨d, hd, rfl⟩ := hz
    rw [List.append_nil] at hd
    rw [hd]
theorem masks_eq {n : Int} {lots : List (List Int)} (h : LotsOk n lots) (hn : n ≤ 1000) : m_l_masks lots = pure (lots.map bitsZ) := by
  unfold m_l_masks
  simp only [pure_bind]
  exact lcM_map fun l hl => lbits_eq fun x hx => ⟨((h.lot l hl).1.2 x hx).1, by have := ((h.lot l hl).1.2 x hx).2; omega⟩
def crowdB (b : Nat) : List Int := (rg 0 12).filter fun x => b.testBit x.toNat
theorem crowdB_crowd {b : Nat} {n : Int} (h0 : 0 ≤ n) (hn : n ≤ 12) (hb : b < 2 ^ n.toNat) : Crowd n (crowdB b) := by
  refine ⟨(rg_asc 0 12).sublist List.filter_sublist, fun x hx => ?_⟩
  obtain ⟨h1, h2⟩ := List.mem_filter.mp hx
  have h3 := mem_rg.mp h1
  refine ⟨h3.1, ?_⟩
  by_cases q : x < n
  · exact q
  · have : b < 2 ^ x.toNat := Nat.lt_of_lt_of_le hb (Nat.pow_le_pow_right (by decide) (by omega))
    rw [Nat.testBit_lt_two_pow this] at h2
    cases h2
theorem mem_crowdB {b : Nat} {x : Int} : x ∈ crowdB b ↔ (0 ≤ x ∧ x < 12) ∧ b.testBit x.toNat = true := by
  unfold crowdB
  rw [List.mem_filter, mem_rg]
theorem lcrowd_eq (b : Nat) : m_l_crowd (b : Int) = pure (crowdB b) := by
  unfold m_l_crowd
  simp only [pure_bind]
  rw [mRg_ok (a := 0) (b := 12) (by decide) (by decide) (by decide) (by decide) (by decide), pure_bind]
  rw [lcM_pure (q := fun x => b.testBit x.toNat) (g := fun x => x) (fun x hx => ?_) (fun _ _ _ => rfl), List.map_id']
  · rfl
  · have hx0 := (mem_rg.mp hx).1
    rw [mShr_ok hx0, pure_bind, mMod_ok (by decide), pure_bind]
    congr 1
    have e : ((b : Int) / 2 ^ x.toNat) % 2 = ((b / 2 ^ x.toNat % 2 : Nat) : Int) := by push_cast; rfl
    rw [e, Nat.testBit_eq_decide_div_mod_eq]
    exact decide_eq_decide.mpr (by omega)
theorem crowdB_bits {n : Int} {c : List Int} (hc : Crowd n c) (hn : n ≤ 12) : crowdB (bitsN c) = c := by
  refine asc_uniq ((rg_asc 0 12).sublist List.filter_sublist) hc.1 fun x => ?_
  rw [mem_crowdB]
  constructor
  · rintro ⟨h1, h2⟩
    rw [hc.bits, Int.toNat_of_nonneg h1.1] at h2
    exact of_decide_eq_true h2
  · intro hx
    have := hc.2 x hx
    exact ⟨by omega, by rw [hc.bits, Int.toNat_of_nonneg this.1]; exact decide_eq_true hx⟩
theorem bits_crowdB {b : Nat} (hb : b < 2 ^ 12) : bitsN (crowdB b) = b := by
  have hc : Crowd 12 (crowdB b) := crowdB_crowd (by decide) (by decide) hb
  refine (bits_uniq hc.nodup (fun x hx => (hc.2 x hx).1) fun j => ?_).symm
  rw [Bool.eq_iff_iff, decide_eq_true_eq, mem_crowdB, Int.toNat_natCast]
  constructor
  · intro h
    refine ⟨⟨by omega, ?_⟩, h⟩
    by_cases q : (j : Int) < 12
    · exact q
    · have : b < 2 ^ j := Nat.lt_of_lt_of_le hb (Nat.pow_le_pow_right (by decide) (by omega))
      rw [Nat.testBit_lt_two_pow this] at h
      cases h
  · exact fun h => h.2
end W

namespace W
open PySem Dl
-- alike, through and through
-- bits
theorem and_sub (a m : Nat) : a &&& m = a ↔ ∀ j : Nat, a.testBit j = true → m.testBit j = true := by
  constructor
  · intro h j hj
    have := congrArg (Nat.testBit · j) h
    simp only [Nat.testBit_and, hj, Bool.true_and] at this
    exact this
  · intro h
    refine Nat.eq_of_testBit_eq fun j => ?_
    rw [Nat.testBit_and]
    cases q : a.testBit j with
    | false => rfl
    | true => rw [h j q]; rfl
theorem and_one (a j : Nat) : (0 < a &&& 2 ^ j) ↔ a.testBit j = true := by
  cases q : a.testBit j with
  | true =>
    refine ⟨fun _ => rfl, fun _ => Nat.pos_of_ne_zero fun e => ?_⟩
    have := congrArg (Nat.testBit · j) e
    simp [Nat.testBit_and, q, Nat.testBit_two_pow] at this
  | false =>
    refine ⟨fun h => ?_, fun h => nomatch h⟩
    have : a &&& 2 ^ j = 0 := Nat.eq_of_testBit_eq fun i => by
      rw [Nat.testBit_and, Nat.testBit_two_pow, Nat.zero_testBit]
      by_cases e : j = i
      · subst e; rw [q]; rfl
      · rw [decide_eq_false e, Bool.and_false]
    omega
theorem one_shl (j : Nat) : (1 * 2 ^ j : Int) = ((2 ^ j : Nat) : Int) := by push_cast; rw [Int.one_mul]
theorem bor_nat (a b : Nat) : Builtin.bitOr (a : Int) (b : Int) = ((a ||| b : Nat) : Int) := by
  rw [Bits.bitOr_pp (Int.natCast_nonneg _) (Int.natCast_nonneg _), Int.toNat_natCast, Int.toNat_natCast]
-- looks
section
variable {n : Int} {lots : List (List Int)} {o c z : List Int}
end
section
variable {n : Int} {lots : List (List Int)} {o c z : List Int}
theorem holds_bits {m : Int} {a b : List Int} (ha : Crowd n a) (hb : Crowd m b) : m_holds (bitsN a : Int) (bitsN b : Int) = pure (inB b a) := by
  rw [holds_eq]
  congr 1
  cases e : inB b a with
  | true => exact decide_eq_true ((and_bits ha hb).mpr e)
  | false => exact decide_eq_false fun w => by rw [(and_bits ha hb).mp w] at e; cases e
theorem deTI (z : List Int) : (deT deI) (eT D.int z) = some z := by
  show deAll deI (z.map D.int) = some z
  induction z with
  | nil => rfl
  | cons x z ih =>
    rw [List.map_cons]
    unfold deAll
    rw [ih]
    rfl
end
end W

namespace W
open PySem Dl
-- the law's own letting in, by bits
section
variable {n : Int} {lots : List (List Int)} {o c z : List Int}
theorem l_letC_eq (h : OrdOk n lots o) (hn : n ≤ 12) (hc : Crowd n c) : m_l_let (lots.map bitsZ) o (bitsN c : Int) = pure (bitsN (letL (SO lots o) c o) : Int) := by
  have c0 : ∀ x ∈ c, 0 ≤ x := fun x hx => (hc.2 x hx).1
  unfold m_l_let
  simp only [pure_bind, bind_pure]
  refine pu_eq ((Pu.fold (fun xs (v : Int) => ∃ d, d ++ xs = o ∧ v = (bitsN (letL (SO lots o) c d) : Int)) (fun x xs v hv => ?_) ⟨[], rfl, rfl⟩).mono fun v hv => ?_)
  · obtain ⟨d, hd, rfl⟩ := hv
    have hxo : x ∈ o := by rw [← hd]; exact List.mem_append.mpr (.inr List.mem_cons_self)
    have hx := h.mem.mp hxo
    have hn2 := h.nodup
    rw [← hd] at hn2
    have hdn := (List.nodup_append.mp hn2).1
    have hxd : x ∉ d := fun q => (List.nodup_append.mp hn2).2.2 x q x List.mem_cons_self rfl
    have zn := letL_nodup (S := SO lots o) (c := c) hdn
    have z0 : ∀ y ∈ letL (SO lots o) c d, 0 ≤ y := fun y hy => c0 y (letL_mem hy).2
    have zd : ∀ y ∈ letL (SO lots o) c d, y ∈ d := fun y hy => (letL_mem hy).1
    have hxl : x ∉ letL (SO lots o) c d := fun q => hxd (zd x q)
    have est : letL (SO lots o) c (d ++ [x]) = stepL (SO lots o) c (letL (SO lots o) c d) x := letL_split (SO lots o) c d [] x
    generalize letL (SO lots o) c d = z at zn z0 zd hxl est ⊢
    have tz : ∀ j : Nat, (bitsN z).testBit j = decide ((j : Int) ∈ z) := bits_test zn z0
    rw [mShl_ok ⟨hx.1, by omega, by decide⟩, pure_bind, one_shl]
    simp only [opI_pure, band_nat, bor_nat, opB_pure]
    have hin : bGt (((bitsN c &&& 2 ^ x.toNat : Nat)) : Int) 0 = decide (x ∈ c) := by
      show decide _ = _
      refine decide_eq_decide.mpr ?_
      have := and_one (bitsN c) x.toNat
      rw [hc.bits, Int.toNat_of_nonneg hx.1, decide_eq_true_eq] at this
      exact ⟨fun q => this.mp (by omega), fun q => by have := this.mpr q; omega⟩
    rw [mIf_pure, hin]
    have fin : ∀ {m : M Int} {w : Int}, m = pure w → (w = (bitsN (letL (SO lots o) c (d ++ [x])) : Int)) → Pu m fun v => ∃ d', d' ++ xs = o ∧ v = (bitsN (letL (SO lots o) c d') : Int) := fun e1 e2 => ⟨_, e1, d ++ [x], by rw [List.append_assoc]; exact hd, e2⟩
    rw [est] at fin
    by_cases hxc : x ∈ c
    · rw [decide_eq_true hxc, if_pos rfl]
      let q : Int → Bool := fun m => decide (0 < m.toNat &&& 2 ^ x.toNat) && decide ((bitsN z ||| 2 ^ x.toNat) &&& m.toNat = m.toNat)
      have hq : (lots.map bitsZ).any q = barS (SO lots o) x z := by
        rw [Bool.eq_iff_iff, List.any_eq_true, bar_iff]
        have one : ∀ l ∈ lots, q (bitsZ l) = true ↔ lastO o l = x ∧ ∀ y ∈ l, y ≠ x → y ∈ z := fun l hl => by
          have hlc := (h.lots.lot l hl).1
          show (decide _ && decide _) = true ↔ _
          unfold bitsZ
          rw [Int.toNat_natCast, Bool.and_eq_true, decide_eq_true_eq, decide_eq_true_eq, and_one, Nat.and_comm, and_sub, hlc.bits, Int.toNat_of_nonneg hx.1, decide_eq_true_eq]
          have tm : ∀ j : Nat, (bitsN z ||| 2 ^ x.toNat).testBit j = decide ((j : Int) ∈ z ∨ (j : Int) = x) := fun j => by
            rw [Nat.testBit_or, tz, Nat.testBit_two_pow, Bool.eq_iff_iff]
            simp only [Bool.or_eq_true, decide_eq_true_eq]
            exact or_congr_right ⟨fun q => by omega, fun q => by omega⟩
          constructor
          · rintro ⟨h1, h2⟩
            have h3 : ∀ y ∈ l, y ≠ x → y ∈ z := fun y hy hyx => by
              have y0 := (hlc.2 y hy).1
              have := h2 y.toNat (by rw [hlc.bits, Int.toNat_of_nonneg y0]; exact decide_eq_true hy)
              rw [tm, Int.toNat_of_nonneg y0, decide_eq_true_eq] at this
              exact this.resolve_right hyx
            refine ⟨IsLast.eq ⟨d, xs, hd.symm, h1, fun y hy hyl => ?_⟩, h3⟩
            have n2 := (List.nodup_append.mp hn2).2
            have hyx : y ≠ x := fun z => (List.nodup_cons.mp n2.1).1 (z ▸ hy)
            exact n2.2 y (zd y (h3 y hyl hyx)) y (List.mem_cons_of_mem _ hy) rfl
          · rintro ⟨h1, h2⟩
            have hlast := (h.last hl).mem.2
            rw [h1] at hlast
            refine ⟨hlast, fun j hj => ?_⟩
            rw [hlc.bits, decide_eq_true_eq] at hj
            rw [tm, decide_eq_true_eq]
            by_cases hjx : (j : Int) = x
            · exact .inr hjx
            · exact .inl (h2 _ hj hjx)
        constructor
        · rintro ⟨m, hm, hm2⟩
          obtain ⟨l, hl, rfl⟩ := List.mem_map.mp hm
          exact ⟨l, hl, (one l hl).mp hm2⟩
        · rintro ⟨l, hl, h2⟩
          exact ⟨bitsZ l, List.mem_map_of_mem hl, (one l hl).mpr h2⟩
      rw [lcM_pure (q := q) (g := fun m => m) (fun m hm => ?_) (fun _ _ _ => rfl), pure_bind, List.map_id']
      · have hb : decide ((((lots.map bitsZ).filter q).length : Int) = 0) = !barS (SO lots o) x z := by
          rw [← hq, Bool.eq_iff_iff, decide_eq_true_eq, Bool.not_eq_true', List.any_eq_false]
          constructor
          · intro hl m hm hm2
            have : (lots.map bitsZ).filter q = [] := List.length_eq_zero_iff.mp (by omega)
            exact List.filter_eq_nil_iff.mp this m hm hm2
          · intro hl
            have : (lots.map bitsZ).filter q = [] := List.filter_eq_nil_iff.mpr hl
            rw [this]; rfl
        rw [mIf_pure, hb]
        unfold stepL at fin
        rw [decide_eq_true hxc, Bool.true_and] at fin
        generalize barS (SO lots o) x z = bb at fin ⊢
        cases bb with
        | true => exact fin rfl rfl
        | false => exact fin rfl (by show _ = ((bitsN (z ++ [x]) : Nat) : Int); rw [bits_snoc zn z0 hxl hx.1])
      · obtain ⟨l, hl, rfl⟩ := List.mem_map.mp hm
        unfold bitsZ
        rw [band_nat, band_nat, mAnd_pure2]
        congr 1
        show (decide _ && decide _) = (decide _ && decide _)
        rw [Int.toNat_natCast]
        congr 1
        · exact decide_eq_decide.mpr (by omega)
        · exact decide_eq_decide.mpr (by omega)
    · rw [decide_eq_false hxc, if_neg Bool.false_ne_true]
      unfold stepL at fin
      rw [decide_eq_false hxc, Bool.false_and, if_neg Bool.false_ne_true] at fin
      exact fin rfl rfl
  · obtain ⟨d, hd, rfl⟩ := hv
    rw [List.append_nil] at hd
    rw [hd]
end
end W

namespace W
open PySem Dl
-- quiet states, looks that go often enough through all
section
variable {n : Int} {lots : List (List Int)} {o c z : List Int}
end
end W

namespace W
-- C7: crowds by size, how many
open PySem Dl
-- how many
end W

namespace W
-- C8: whom one comer touches
open PySem Dl
section
variable {n : Int} {lots : List (List Int)} {o c : List Int}
end
section
variable {n : Int} {lots : List (List Int)} {o : List Int}
end
end W

namespace W
-- C9: the law's own search for the most touched
open PySem Dl
section
variable {n : Int} {lots : List (List Int)} {o c : List Int}
end
end W

namespace W
-- C10: one person with whom each other one is a lot
open PySem Dl
section
variable {n one : Int}
def others (n one : Int) : List Int := (rg 0 n).filter fun x => !decide (x = one)
variable {b c : List Int}
end
section
variable {n : Int} {lots : List (List Int)} {o c : List Int}
end
end W

namespace W
-- C11: the greatest number of people of a clear crowd
open PySem Dl
def del (c : List Int) (p : Int) : List Int := c.filter fun x => !decide (x = p)
theorem del_sub (c : List Int) (p : Int) : (del c p).Sublist c := List.filter_sublist
-- known answers
theorem putL_keys {κ β : Type} [DecidableEq κ] (l : List (κ × β)) (k : κ) (v : β) (h : (l.map (·.1)).Nodup) : ((putL l k v).map (·.1)).Nodup ∧ ∀ q ∈ putL l k v, q.1 = k ∨ q.1 ∈ l.map (·.1) := by
  unfold putL
  split
  · have e : ∀ m : List (κ × β), (m.map fun p => if p.1 = k then (p.1, v) else p).map (·.1) = m.map (·.1) := fun m => by
      rw [List.map_map]
      refine List.map_congr_left fun p _ => ?_
      show (if p.1 = k then (p.1, v) else p).1 = p.1
      split <;> rfl
    rw [e]
    refine ⟨h, fun q hq => .inr ?_⟩
    rw [← e l]
    exact List.mem_map.mpr ⟨q, hq, rfl⟩
  · rename_i hk
    have hk : k ∉ l.map (·.1) := fun q => hk (by
      rw [List.any_eq_true]
      obtain ⟨p, hp, e⟩ := List.mem_map.mp q
      exact ⟨p, hp, decide_eq_true e⟩)
    rw [List.map_append]
    refine ⟨List.nodup_append.mpr ⟨h, List.nodup_cons.mpr ⟨List.not_mem_nil, List.nodup_nil⟩, fun a ha b hb e => hk (by
      have hb : b = k := List.mem_singleton.mp hb
      rw [← hb, ← e]; exact ha)⟩, fun q hq => ?_⟩
    rcases List.mem_append.mp hq with z | z
    · exact .inr (List.mem_map.mpr ⟨q, z, rfl⟩)
    · rw [List.mem_singleton.mp z]; exact .inl rfl
section
variable {P : Int → Int → Prop} {k : Int}
end
section
variable {n : Int} {lots : List (List Int)} {c : List Int}
theorem del_crowd (hc : Crowd n c) (p : Int) : Crowd n (del c p) := sub_crowd hc (del_sub c p)
theorem bits_4096 (hc : Crowd n c) (hn : n ≤ 12) : (0 : Int) ≤ (bitsN c : Int) ∧ (bitsN c : Int) < 4096 := by
  have h1 := bits_lt hc.nodup hc.2
  have h2 : 2 ^ n.toNat ≤ 2 ^ 12 := Nat.pow_le_pow_right (by decide) (by omega)
  omega
end
end W

namespace W
-- C12: the law's own search for the greatest clear crowds
open PySem Dl
section
variable {n : Int} {lots : List (List Int)} {c : List Int}
end
end W

namespace W
-- C13: the least share
open PySem Dl
section
variable {tp g : List Int → Nat} {d : List (List Int)} {t s : Nat} {c x : List Int}
end
section
variable {n : Int} {lots : List (List Int)} {o c : List Int}
end
end W

namespace W
-- C14: the law's own least share
open PySem Dl
section
variable {n : Int} {lots : List (List Int)} {o c : List Int}
end
end W

namespace W
-- C15: parts of at most four, of each of which at most some can be in
open PySem Dl
section
variable {n : Int} {lots : List (List Int)} {o c : List Int} {gs : List (List Int × Nat)}
def flatG (gs : List (List Int × Nat)) : List Int := (gs.map fun q => q.1).flatten
structure GroupsOk (n : Int) (gs : List (List Int × Nat)) (lots : List (List Int)) : Prop where
  crowd : ∀ q ∈ gs, Crowd n q.1
  flat : (flatG gs).Perm (rg 0 n)
  cap : ∀ q ∈ gs, 1 ≤ q.2
  lot : ∀ l, l ∈ lots ↔ ∃ q ∈ gs, l ∈ partsL q.1 (q.2 + 1)
theorem GroupsOk.nodup (G : GroupsOk n gs lots) : (flatG gs).Nodup := G.flat.nodup_iff.mpr (rg_nodup 0 n)
end
end W

namespace W
-- C16: shares known by hand
open PySem Dl
section
variable {n one : Int} {lots : List (List Int)} {o b c : List Int} {g : List Int → Nat} {t s : Nat}
end
end W

namespace W
-- C17: stingy, fewer
open PySem Dl
section
variable {n : Int} {lots : List (List Int)} {o c : List Int}
end
end W

namespace W
-- N1: the list of the next day
open PySem Dl
section
variable {n : Int} {lots : List (List Int)} {o c : List Int} {f : D_Office}
theorem bit_zeroN {l : List Int} (hn : l.Nodup) (h0 : ∀ y ∈ l, 0 ≤ y) {x : Int} (hx : 0 ≤ x) : decide (Builtin.bitAnd ((bitsN l : Int) / 2 ^ x.toNat) 1 = 0) = !decide (x ∈ l) := by
  have h1 := bit_eq hn h0 hx
  have e1 : (bitsN l : Int) / 2 ^ x.toNat = ((bitsN l / 2 ^ x.toNat : Nat) : Int) := by push_cast; rfl
  have e2 : Builtin.bitAnd ((bitsN l : Int) / 2 ^ x.toNat) 1 = ((bitsN l / 2 ^ x.toNat % 2 : Nat) : Int) := by
    rw [e1, show Builtin.bitAnd ((bitsN l / 2 ^ x.toNat : Nat) : Int) 1 = ((bitsN l / 2 ^ x.toNat &&& 1 : Nat) : Int) from _root_.PySem.W.os_band _ 1, Nat.and_one_is_mod]
  rw [e2] at h1 ⊢
  rw [← h1]
  have h2 := Nat.mod_two_eq_zero_or_one (bitsN l / 2 ^ x.toNat)
  rcases h2 with h2 | h2 <;> rw [h2] <;> rfl
theorem mod_bit {l : List Int} (hn : l.Nodup) (h0 : ∀ y ∈ l, 0 ≤ y) {x : Int} (hx : 0 ≤ x) : ((bitsN l : Int) / 2 ^ x.toNat) % 2 = if x ∈ l then 1 else 0 := by
  have ht := bits_test hn h0 x.toNat
  rw [Int.toNat_of_nonneg hx, Nat.testBit_eq_decide_div_mod_eq] at ht
  have e : ((bitsN l : Int) / 2 ^ x.toNat) % 2 = ((bitsN l / 2 ^ x.toNat % 2 : Nat) : Int) := by push_cast; rfl
  rw [e]
  have h2 := Nat.mod_two_eq_zero_or_one (bitsN l / 2 ^ x.toNat)
  by_cases q : x ∈ l
  · rw [if_pos q]
    rw [decide_eq_true q] at ht
    have := of_decide_eq_true ht
    omega
  · rw [if_neg q]
    rw [decide_eq_false q] at ht
    have := of_decide_eq_false ht
    omega
/-- the list of the next day -/
def nextO (lots : List (List Int)) (o c : List Int) : List Int := (o.filter fun x => !decide (x ∈ letL (SO lots o) c o)) ++ o.filter fun x => decide (x ∈ letL (SO lots o) c o)
theorem next_ok (h : OrdOk n lots o) : OrdOk n lots (nextO lots o c) := by
  refine ⟨h.lots, List.Perm.trans ?_ h.perm⟩
  have := List.filter_append_perm (fun x => !decide (x ∈ letL (SO lots o) c o)) o
  simp only [Bool.not_not] at this
  exact this
theorem l_next_eq (h : OrdOk n lots o) (hn : n ≤ 12) (hc : Crowd n c) : m_l_next (lots.map bitsZ) o (bitsN c : Int) = pure (nextO lots o c) := by
  have hnd := letL_nodup (S := SO lots o) (c := c) h.nodup
  have h0 : ∀ y ∈ letL (SO lots o) c o, 0 ≤ y := fun y hy => (hc.2 y (letL_mem hy).2).1
  have hol : o.length ≤ 1000 := by
    have := h.perm.length_eq
    rw [rg0_length] at this
    omega
  have hox : ∀ x ∈ o, 0 ≤ x := fun x hx => (h.mem.mp hx).1
  unfold m_l_next
  simp only [pure_bind]
  rw [l_letC_eq h hn hc, pure_bind]
  rw [lcM_pure (q := fun x => !decide (x ∈ letL (SO lots o) c o)) (g := fun x => x) (fun x hx => by
    rw [mShr_ok (hox x hx), pure_bind, mMod_ok (by decide), pure_bind, mod_bit hnd h0 (hox x hx)]
    by_cases q : x ∈ letL (SO lots o) c o
    · rw [if_pos q, decide_eq_true q]; rfl
    · rw [if_neg q, decide_eq_false q]; rfl) (fun _ _ _ => rfl), List.map_id', pure_bind]
  rw [lcM_pure (q := fun x => decide (x ∈ letL (SO lots o) c o)) (g := fun x => x) (fun x hx => by
    rw [mShr_ok (hox x hx), pure_bind, mMod_ok (by decide), pure_bind, mod_bit hnd h0 (hox x hx)]
    by_cases q : x ∈ letL (SO lots o) c o
    · rw [if_pos q, decide_eq_true q]; rfl
    · rw [if_neg q, decide_eq_false q]; rfl) (fun _ _ _ => rfl), List.map_id', pure_bind]
  have l1 := List.length_filter_le (fun x => !decide (x ∈ letL (SO lots o) c o)) o
  have l2 := List.length_filter_le (fun x => decide (x ∈ letL (SO lots o) c o)) o
  rw [chk_ok (by show _ ≤ 1000000; omega), pure_bind]
  rfl
theorem moved_eq (h : OrdOk n lots o) (hn : n ≤ 12) (hc : Crowd n c) : m_moved_back o (bitsN (letL (SO lots o) c o) : Int) = pure (nextO lots o c) := by
  have hnd := letL_nodup (S := SO lots o) (c := c) h.nodup
  have h0 : ∀ y ∈ letL (SO lots o) c o, 0 ≤ y := fun y hy => (hc.2 y (letL_mem hy).2).1
  have hol : o.length ≤ 1000 := by
    have := h.perm.length_eq
    rw [rg0_length] at this
    omega
  have hox : ∀ x ∈ o, 0 ≤ x := fun x hx => (h.mem.mp hx).1
  unfold m_moved_back
  simp only [pure_bind]
  rw [lcM_pure (q := fun x => !decide (x ∈ letL (SO lots o) c o)) (g := fun x => x) (fun x hx => by
    rw [mShr_ok (hox x hx)]
    simp only [opI_pure, pure_bind]
    rw [bit_zeroN hnd h0 (hox x hx)]) (fun _ _ _ => rfl), List.map_id', pure_bind]
  rw [lcM_pure (q := fun x => decide (x ∈ letL (SO lots o) c o)) (g := fun x => x) (fun x hx => by
    rw [mShr_ok (hox x hx)]
    simp only [opI_pure, pure_bind]
    rw [bit_eq hnd h0 (hox x hx)]) (fun _ _ _ => rfl), List.map_id', pure_bind]
  have l1 := List.length_filter_le (fun x => !decide (x ∈ letL (SO lots o) c o)) o
  have l2 := List.length_filter_le (fun x => decide (x ∈ letL (SO lots o) c o)) o
  rw [chk_ok (by show _ ≤ 1000000; omega), pure_bind]
  rfl
theorem day_eq (h : OrdOk n lots o) (hf : OffOk n lots o f) (h0 : 0 ≤ n) (hn : n ≤ 12) (hl : lots.length ≤ 60) (hc : Crowd n c) : Pu (m_day_behind f (bitsN c : Int)) (OffOk n lots (nextO lots o c)) := by
  have hi := in_bits_eq h hf (by omega) hc
  obtain ⟨bars, rfl, hb⟩ := hf
  unfold m_day_behind
  simp only [pure_bind]
  rw [hi, pure_bind, moved_eq h hn hc, pure_bind]
  exact office_eq (next_ok h) h0 (by omega) (by omega)
end
end W

namespace W
-- N2: things that are no crowds
open PySem Dl
section
variable {n : Int} {lots : List (List Int)} {o c : List Int}
theorem pickH_wp {k : Nat} {n : Int} {l : List D} {f : D → Prop} (hl : LN k f l) (hk : (k : Int) = n) (h0 : 0 < n) (h1 : n < 1000) : Wp SrcH (m_l_draw n >>= fun i => ofO (L2.atI l i)) f := (draw_wpH h0 (by omega)).bind fun r hr => by
  have hlt : r.toNat < l.length := by rw [hl.1]; omega
  rw [atI_in hr.1 (by rw [hl.1]; omega) D.non, ofO_some, List.getD_eq_getElem?_getD, List.getElem?_eq_getElem hlt]
  exact Wp.pure (hl.2 _ (List.getElem_mem hlt))
theorem oneH_wp {d : D} {P : D → Prop} (h : P d) : Wp SrcH (pure [d]) (LN 1 P) := Wp.pure ⟨rfl, fun x hx => by rw [List.mem_singleton.mp hx]; exact h⟩
theorem deepH_wp : Wp SrcH m_l_deep fewD := by
  unfold m_l_deep
  have c2 : ∀ z : D, (consM (pure z) nilM : M (List D)) = pure [z] := fun z => consM_pure
  have c3 : ∀ z : D, (consM (pure z) (consM (pure z) nilM) : M (List D)) = pure [z, z] := fun z => by rw [c2, consM_pure]
  simp only [c2, c3, pure_bind, Dl.opI, List.length_cons, List.length_nil, chk_ok (show 0 + 1 ≤ LIM by decide), chk_ok (show 0 + 1 + 1 ≤ LIM by decide)]
  refine Wp.bind (P := fewD) (Wp.bind (P := LN 4 fewD) (chkL_wp (k := 4) ?_ (by decide)) fun l hl => pickH_wp hl rfl (by decide) (by decide)) fun d0 hd0 => ?_
  · exact consp_wp trivial (consp_wp trivial (consp_wp trivial (oneH_wp trivial)))
  refine Wp.bind (P := fun _ : List Int => True) (Wp.bind (P := fun r : Int => 1 ≤ r ∧ r ≤ 30) ((draw_wpH (by decide) (by decide)).bind fun r hr => Wp.pure (by omega)) fun m hm => ?_) fun xs _ => ?_
  · rw [mRg_ok (a := 0) (b := m) (by omega) (by omega) (by omega) (by omega) (by omega)]
    exact Wp.pure trivial
  refine (foldM_wp (fun (_ : List Int) (z : D) => fewD z) (fun x xs z hz => ?_) hd0).bind fun z hz => Wp.pure hz
  refine Wp.bind (P := fewD) ?_ fun z hz => Wp.pure hz
  have hl : (cutL [z, z] none (some (1 : Int))).length ≤ 1000 := Nat.le_trans (cutL_length _ _ _) (Nat.le_of_ble_eq_true rfl)
  refine Wp.bind (P := LN 4 fewD) (chkL_wp (k := 4) ?_ (by decide)) fun l hl => pickH_wp hl rfl (by decide) (by decide)
  exact consp_wp (few_A (Nat.le_of_ble_eq_true rfl)) (consp_wp trivial (consp_wp (few_A hl) (oneH_wp trivial)))
theorem oddH_wp {n : Int} : Wp SrcH (m_l_odd n) fun _ => True := by
  have p1 : mPow 10 40 = pure (10 ^ 40) := mPow_ok ⟨by decide, by decide, by decide⟩
  have c2 : (consM (pure (0 : Int)) nilM : M (List Int)) = pure [0] := consM_pure
  unfold m_l_odd
  simp only [c2, pure_bind, p1, List.length_cons, List.length_nil, chk_ok (show 0 + 1 ≤ LIM by decide)]
  refine Wp.bind (P := LN 11 fun _ => True) (chkL_wp (k := 11) ?_ (by decide)) fun l hl => pickH_wp hl rfl (by decide) (by decide)
  exact consp_wp trivial (consp_wp trivial (consp_wp trivial (consp_wp trivial (consp_wp trivial (consp_wp trivial (consp_wp trivial (consp_wp trivial (consp_wp trivial (consp_wp trivial (consp_wp trivial (by rw [nilM_pure]; exact nil_wp)))))))))))
theorem putH_wp {a b : List Int} {m : M D} (ha : a.length ≤ 100) (hb : b.length ≤ 100) (hm : Wp SrcH m fun _ => True) : Wp SrcH (((pure (List.map D.int a) >>= fun x => ((consM m nilM) >>= fun l => chk l.length >>= fun _ => pure l) >>= fun y => chk (x.length + y.length) >>= fun _ => pure (x ++ y)) >>= fun x => pure (List.map D.int b) >>= fun y => chk (x.length + y.length) >>= fun _ => pure (x ++ y)) >>= fun z => pure (eT eId z)) fewD := by
  have hc : Wp SrcH ((consM m nilM) >>= fun l => chk l.length >>= fun _ => pure l) (LN 1 fun _ => True) := chkL_wp (cons_wp hm (by rw [nilM_pure]; exact nil_wp)) (by decide)
  simp only [pure_bind]
  refine Wp.bind (P := fun x : List D => x.length ≤ 201) (Wp.bind (P := fun x : List D => x.length ≤ 101) (hc.bind fun y hy => ?_) fun x hx => ?_) fun x hx => Wp.pure (few_A (by omega))
  · rw [hy.1, List.length_map, chk_ok (by show _ ≤ 1000000; omega), pure_bind]
    refine Wp.pure ?_
    rw [List.length_append, List.length_map, hy.1]; omega
  · rw [List.length_map, chk_ok (by show _ ≤ 1000000; omega), pure_bind]
    refine Wp.pure ?_
    rw [List.length_append, List.length_map]; omega
theorem bent_wpH {n : Int} {c : List Int} (hc : c.length ≤ 100) : Wp SrcH (m_l_crowd_bent n c) fewD := by
  unfold m_l_crowd_bent
  have hcut : ∀ lo hi, (cutL c lo hi).length ≤ 100 := fun lo hi => Nat.le_trans (cutL_length _ _ _) hc
  have c2 : (consM (pure c) nilM : M (List (List Int))) = pure [c] := consM_pure
  simp only [c2, pure_bind, Dl.opI, opB_pure, mIf_pure, List.length_cons, List.length_nil, chk_ok (show 0 + 1 ≤ LIM by decide), bind_pure]
  refine (draw_wpH (by decide) (by decide)).bind fun k hk => (draw_wpH (by omega) (by omega)).bind fun at_ hat => ?_
  split
  · have := putH_wp (hcut none (some at_)) (hcut (some at_) none) (oddH_wp (n := n))
    simpa only [pure_bind] using this
  · split
    · have := putH_wp (hcut none (some at_)) (hcut (some (at_ + 1)) none) (oddH_wp (n := n))
      simpa only [pure_bind] using this
    · split
      · exact Wp.pure (few_T (by rw [List.length_reverse]; omega))
      · split
        · refine Wp.bind (P := LN 7 fewD) (chkL_wp (k := 7) ?_ (by decide)) fun l hl => pickH_wp hl rfl (by decide) (by decide)
          exact consp_wp trivial (consp_wp trivial (consp_wp trivial (consp_wp trivial (consp_wp trivial (consp_wp (by show ([c].map (eT D.int)).length ≤ 1000; exact Nat.le_of_ble_eq_true rfl) (consp_wp trivial (by rw [nilM_pure]; exact nil_wp)))))))
        · split
          · have h1 := hcut none (some at_)
            have h2 := hcut (some (at_ + 1)) none
            rw [chk_ok (by show _ ≤ 1000000; omega), pure_bind, pure_bind]
            exact Wp.pure (few_T (by rw [List.length_append]; omega))
          · exact deepH_wp
end
end W

namespace W
-- N3: as many as can be apart
open PySem Dl
/-- as many of the masks as can be apart, and apart from u -/
def apN : List Nat → Nat → Nat
  | [], _ => 0
  | m :: ms, u => if m &&& u = 0 then max (apN ms u) (1 + apN ms (u ||| m)) else apN ms u
theorem apN_cons {m : Nat} {ms : List Nat} {u : Nat} : apN (m :: ms) u = if m &&& u = 0 then max (apN ms u) (1 + apN ms (u ||| m)) else apN ms u := rfl
/-- of a row of things with masks: the first ones with which as many as can be are apart -/
def flL {α : Type} (f : α → Nat) : List α → Nat → List α
  | [], _ => []
  | l :: ls, u => if f l &&& u = 0 ∧ 1 + apN (ls.map f) (u ||| f l) = apN ((l :: ls).map f) u then l :: flL f ls (u ||| f l) else flL f ls u
theorem flL_sub {α : Type} {f : α → Nat} : ∀ {ls : List α} {u : Nat}, (flL f ls u).Sublist ls
  | [], _ => List.nil_sublist _
  | l :: ls, u => by
    unfold flL
    split
    · exact flL_sub.cons₂ l
    · exact flL_sub.cons l
/-! answers known by pairs -/
def SrcP (P : Int × Int → Int → Prop) (s : List D) : Prop := ∃ l : List ((Int × Int) × Int), s = [eDt (eP D.int D.int) D.int l] ∧ (l.map (·.1)).Nodup ∧ (∀ q ∈ l, (0 ≤ q.1.1 ∧ q.1.1 < 60) ∧ 0 ≤ q.1.2 ∧ q.1.2 < 4096) ∧ ∀ k v, getL l k = some v → P k v
theorem eDt_inj : ∀ l m : List ((Int × Int) × Int), eDt (eP D.int D.int) D.int l = eDt (eP D.int D.int) D.int m → l = m := fun l m h => by
  have h : (l.map fun p => ((eP D.int D.int) p.1, D.int p.2)) = m.map fun p => ((eP D.int D.int) p.1, D.int p.2) := D.dtt.inj h
  induction l generalizing m with
  | nil => exact (List.map_eq_nil_iff.mp h.symm).symm
  | cons a l ih =>
    cases m with
    | nil => cases h
    | cons b m =>
      rw [List.map_cons, List.map_cons, List.cons.injEq] at h
      obtain ⟨h1, h2⟩ := h
      have e1 : a.1 = b.1 := by
        have := (Prod.mk.inj h1).1
        obtain ⟨⟨a1, a2⟩, a3⟩ := a
        obtain ⟨⟨b1, b2⟩, b3⟩ := b
        have := D.tup.inj this
        injection this with t1 t2
        injection t2 with t2 t3
        exact Prod.ext (D.int.inj t1) (D.int.inj t2)
      have e2 := D.int.inj (Prod.mk.inj h1).2
      rw [ih m (congrArg D.dtt h2) h2]
      congr 1
      exact Prod.ext e1 e2
section
variable {P : Int × Int → Int → Prop} {k : Int × Int}
theorem keysP_few {l : List ((Int × Int) × Int)} (h1 : (l.map (·.1)).Nodup) (h2 : ∀ q ∈ l, (0 ≤ q.1.1 ∧ q.1.1 < 60) ∧ 0 ≤ q.1.2 ∧ q.1.2 < 4096) : l.length ≤ 245760 := by
  have hnd : (l.map fun q => q.1.1 * 4096 + q.1.2).Nodup := by
    have e : (l.map fun q => q.1.1 * 4096 + q.1.2) = (l.map (·.1)).map fun k : Int × Int => k.1 * 4096 + k.2 := by rw [List.map_map]; rfl
    rw [e]
    show List.Pairwise _ _
    rw [List.pairwise_map]
    refine h1.imp_of_mem fun {a b} ha hb hab e => hab ?_
    obtain ⟨p, hp, rfl⟩ := List.mem_map.mp ha
    obtain ⟨q, hq, rfl⟩ := List.mem_map.mp hb
    have a1 := h2 p hp
    have a2 := h2 q hq
    exact Prod.ext (by omega) (by omega)
  have := nodup_few (n := 245760) hnd fun x hx => by
    obtain ⟨q, hq, rfl⟩ := List.mem_map.mp hx
    have := h2 q hq
    show 0 ≤ q.1.1 * 4096 + q.1.2 ∧ q.1.1 * 4096 + q.1.2 < 245760
    omega
  rw [List.length_map] at this
  omega
def HasP (P : Int × Int → Int → Prop) (k : Int × Int) (s : List D) : Prop := SrcP P s ∧ ∃ l v, s = [eDt (eP D.int D.int) D.int l] ∧ getL l k = some v
theorem putP_has {v : Int} (hk : (0 ≤ k.1 ∧ k.1 < 60) ∧ 0 ≤ k.2 ∧ k.2 < 4096) (hv : P k v) : ∀ s, SrcP P s → Okk (sPut (eDt (eP D.int D.int) D.int) k v s) fun _ s' => HasP P k s' := fun s ⟨l, e, h1, h2, h3⟩ => by
  subst e
  have hl := keysP_few h1 h2
  have hp := putL_length l k v
  have g1 : getL (putL l k v) k = some v := by rw [getL_put, if_pos rfl]
  obtain ⟨n1, n2⟩ := putL_keys l k v h1
  unfold Dl.sPut
  rw [unD_eq eDt_inj]
  simp only
  rw [if_pos ⟨show _ ≤ 1000000 by omega, show _ ≤ 1000000 by omega⟩]
  refine ⟨⟨_, rfl, n1, fun q hq => ?_, fun j w hw => ?_⟩, _, v, rfl, g1⟩
  · rcases n2 q hq with e | e
    · rw [e]; exact hk
    · obtain ⟨r, hr, e2⟩ := List.mem_map.mp e
      rw [← e2]; exact h2 r hr
  · rw [getL_put] at hw
    split at hw
    · rename_i q
      cases hw
      rw [q]; exact hv
    · exact h3 j w hw
theorem memoP_wp {B : M Unit} (hB : ∀ s, SrcP P s → Okk (B s) fun _ s' => HasP P k s') : Wp (SrcP P) (mIf (sHas (eDt (eP D.int D.int) D.int) k >>= fun r => pure (!r)) B (pure ()) >>= fun _ => sGet (eDt (eP D.int D.int) D.int) k) (P k) := fun s hs => by
  have fin : ∀ s', HasP P k s' → Okk (sGet (eDt (eP D.int D.int) D.int) k s') fun v s2 => SrcP P s2 ∧ P k v := fun s' ⟨h1, l, v, e, g⟩ => by
    subst e
    obtain ⟨l2, e2, _, _, h3⟩ := id h1
    have := eDt_inj l l2 (by injection e2)
    subst this
    unfold Dl.sGet
    rw [unD_eq eDt_inj]
    simp only [g]
    exact ⟨h1, h3 k v g⟩
  obtain ⟨l, e, h1, h2, h3⟩ := id hs
  refine okk_bind ?_
  unfold mIf
  refine okk_bind (okk_bind ?_)
  have eh : sHas (eDt (eP D.int D.int) D.int) k s = .ok (getL l k).isSome s := by
    subst e
    unfold Dl.sHas
    rw [unD_eq eDt_inj]
  rw [eh]
  show Okk ((if (!(getL l k).isSome) = true then B else pure ()) s) _
  cases g : getL l k with
  | none => exact (hB s hs).imp fun _ s' q => fin s' q
  | some v => exact fin s ⟨hs, l, v, e, g⟩
theorem nd_withP {γ : Type} {A : M γ} {Q : γ → Prop} (hA : Wp (SrcP P) A Q) : Pu (nd (withK (newD true) A)) Q := by
  have h0 : SrcP P [newD true] := ⟨[], rfl, List.nodup_nil, (fun q hq => nomatch hq), (fun k v h => nomatch h)⟩
  have h := hA _ h0
  cases e : A [newD true] with
  | ok v s' =>
    rw [e] at h
    refine ⟨v, ?_, h.2⟩
    funext s
    unfold nd withK
    rw [if_pos rfl, e]
    rfl
  | stuck => rw [e] at h; exact h.elim
end
section
variable {ms : List Nat}
/-- what is known: as many as can be apart -/
def PA (ms : List Nat) (k : Int × Int) (v : Int) : Prop := v = (apN (ms.drop k.1.toNat) k.2.toNat : Int)
theorem or_4096 {a b : Nat} (ha : a < 4096) (hb : b < 4096) : a ||| b < 4096 := Nat.or_lt_two_pow (n := 12) ha hb
theorem apart_wp (hm : ms.length ≤ 60) (h4 : ∀ m ∈ ms, m < 4096) : ∀ (rN k u : Nat), k ≤ ms.length → ms.length - k < rN → u < 4096 → Wp (SrcP (PA ms)) (m_most_apart rN (ms.map fun m : Nat => (m : Int)) (k : Int) (u : Int)) fun v => v = (apN (ms.drop k) u : Int)
  | 0, k, u, _, h, _ => absurd h (Nat.not_lt_zero _)
  | rN + 1, k, u, hk, hr, hu => by
    unfold m_most_apart
    simp only [pure_bind]
    rw [List.length_map, mIf_pure]
    by_cases q : k = ms.length
    · rw [if_pos (by rw [decide_eq_true_eq]; omega)]
      refine Wp.pure ?_
      rw [q, List.drop_length]
      rfl
    have hlt : k < ms.length := by omega
    rw [if_neg (by rw [decide_eq_true_eq]; omega)]
    have hd : ms.drop k = ms[k] :: ms.drop (k + 1) := List.drop_eq_getElem_cons hlt
    have ha : (ofO (L2.atI (ms.map fun m : Nat => (m : Int)) (k : Int)) : M Int) = pure (ms[k] : Int) := by
      rw [atI_nat (by rw [List.length_map]; exact hlt), ofO_some, List.getElem_map]
    have hmk := h4 _ (List.getElem_mem hlt)
    refine (memoP_wp (P := PA ms) (k := ((k : Int), (u : Int))) fun s hs => ?_).mono fun v hv => hv
    simp only [opI_pure, ha, pure_bind]
    have r1 := apart_wp hm h4 rN (k + 1) u (by omega) (by omega) hu
    have r2 := apart_wp hm h4 rN (k + 1) (u ||| ms[k]) (by omega) (by omega) (or_4096 hu hmk)
    refine okk_bind ((r1 s hs).imp fun best s1 hb => ?_)
    obtain ⟨hs1, rfl⟩ := hb
    rw [band_nat, bor_nat]
    have fin : ∀ s2, SrcP (PA ms) s2 → ∀ w : Int, w = (apN (ms.drop k) u : Int) → Okk ((sPut (eDt (eP D.int D.int) D.int) ((k : Int), (u : Int)) w >>= fun _ => pure ()) s2) fun _ s' => HasP (PA ms) ((k : Int), (u : Int)) s' := fun s2 h2 w hw => okk_bind ((putP_has (k := ((k : Int), (u : Int))) ⟨⟨by show 0 ≤ (k : Int); omega, by show (k : Int) < 60; omega⟩, by show 0 ≤ (u : Int); omega, by show (u : Int) < 4096; omega⟩ hw s2 h2).imp fun _ s' q => q)
    rw [mIf_pure]
    by_cases w : ms[k] &&& u = 0
    · rw [if_pos (by rw [decide_eq_true_eq]; omega)]
      refine okk_bind (okk_bind (okk_bind (okk_bind ((r2 s1 hs1).imp fun v2 s2 hb => ?_))))
      obtain ⟨hs2, rfl⟩ := hb
      refine fin s2 hs2 _ ?_
      rw [hd, apN_cons, if_pos w]
      unfold maxI
      split <;> push_cast <;> omega
    · rw [if_neg (by rw [decide_eq_true_eq]; omega)]
      refine okk_bind ?_
      refine fin s1 hs1 _ ?_
      rw [hd, apN_cons, if_neg w]
end
end W

namespace W
-- N4: the flower of a person
open PySem Dl
section
variable {n p : Int} {lots : List (List Int)} {o a c : List Int} {f : D_Office}
/-- a lot of p the others of which stand in a -/
def thrB (p : Int) (a l : List Int) : Bool := decide (p ∈ l) && inB (del l p) a
def throughL (lots : List (List Int)) (p : Int) (a : List Int) : List (List Int) := lots.filter (thrB p a)
def numsT (lots : List (List Int)) (p : Int) (a : List Int) : List Int := ((enumI lots).filter fun x => thrB p a x.2).map (·.1)
def lotZ (lots : List (List Int)) (i : Int) : List Int := lots.getD i.toNat []
def flw (lots : List (List Int)) (p : Int) (a : List Int) : List (List Int) := flL (fun l => bitsN (del l p)) (throughL lots p a) 0
theorem enumI_mapN {α β : Type} (g : α → β) (l : List α) : enumI (l.map g) = (enumI l).map fun x => (x.1, g x.2) := by
  refine List.ext_getElem? fun i => ?_
  rw [enumI_get, List.getElem?_map, List.getElem?_map, enumI_get]
  cases l[i]? <;> rfl
theorem nums_mem {i : Int} (h : i ∈ numsT lots p a) : ∃ k : Nat, ∃ hk : k < lots.length, i = (k : Int) ∧ thrB p a lots[k] = true := by
  obtain ⟨x, hx, rfl⟩ := List.mem_map.mp h
  obtain ⟨h1, h2⟩ := List.mem_filter.mp hx
  obtain ⟨k, hk, rfl⟩ := enumI_mem.mp h1
  exact ⟨k, hk, rfl, h2⟩
theorem nums_lots : (numsT lots p a).map (lotZ lots) = throughL lots p a := by
  unfold numsT throughL
  rw [List.map_map]
  have e : ((enumI lots).filter fun x => thrB p a x.2).map (lotZ lots ∘ (·.1)) = ((enumI lots).filter fun x => thrB p a x.2).map (·.2) := List.map_congr_left fun x hx => by
    obtain ⟨k, hk, rfl⟩ := enumI_mem.mp (List.mem_filter.mp hx).1
    show lots.getD ((k : Int)).toNat [] = _
    rw [Int.toNat_natCast, List.getD_eq_getElem?_getD, List.getElem?_eq_getElem hk]
    rfl
  rw [e]
  conv => rhs; rw [← enumI_snd lots]
  rw [List.filter_map]
  rfl
theorem lotsT_eq (h : LotsOk n lots) (hn : n ≤ 12) (hl : lots.length ≤ 60) (h0 : 0 ≤ p) (hpn : p < n) (ha : Crowd n a) : m_lots_through (n, lots, lots.map bitsZ) p (bitsN a : Int) = pure (numsT lots p a) := by
  unfold m_lots_through
  simp only [pure_bind, nilM_pure, List.length_nil, chk_ok (Nat.zero_le LIM)]
  rw [enumI_mapN]
  refine pu_eq (Pu.bind (P := fun z => z = numsT lots p a) ((Pu.fold (fun (xs : List (Int × Int)) (z : List Int) => ∃ d e, d ++ e = enumI lots ∧ xs = e.map (fun x => (x.1, bitsZ x.2)) ∧ z = (d.filter fun x => thrB p a x.2).map (·.1)) (fun x xs z hz => ?_) (by exact ⟨[], _, rfl, rfl, rfl⟩)).mono fun z hz => ?_) fun z hz => Pu.pure hz)
  · obtain ⟨d, e, hd, hxs, rfl⟩ := hz
    cases e with
    | nil => cases hxs
    | cons y e =>
      rw [List.map_cons] at hxs
      obtain ⟨rfl, rfl⟩ := List.cons.inj hxs
      have hy : y ∈ enumI lots := by rw [← hd]; exact List.mem_append.mpr (.inr List.mem_cons_self)
      obtain ⟨k, hk, rfl⟩ := enumI_mem.mp hy
      have hc := (h.lot _ (List.getElem_mem hk)).1
      have hdl : d.length ≤ 60 := by
        have := congrArg List.length hd
        rw [List.length_append, enumI_length] at this
        omega
      have hfl := List.length_filter_le (fun x : Int × List Int => thrB p a x.2) d
      dsimp only
      rw [mShr_ok h0]
      simp only [opI_pure, pure_bind]
      rw [show bitsZ lots[k] = (bitsN lots[k] : Int) from rfl, bit_eq hc.nodup (fun y hy => (hc.2 y hy).1) h0]
      have hand : mAnd (pure (decide (p ∈ lots[k]))) ((mShl 1 p >>= fun j => pure (Builtin.bitXor (bitsN lots[k] : Int) j)) >>= fun a5 => m_holds (bitsN a : Int) a5) = (pure (thrB p a lots[k]) : M Bool) := by
        unfold thrB
        by_cases q : p ∈ lots[k]
        · rw [mShl_ok (i := 1) (j := p) ⟨h0, by omega, by decide⟩, pure_bind, pure_bind, show Builtin.bitXor (bitsN lots[k] : Int) (1 * 2 ^ p.toNat) = (bitsN (del lots[k] p) : Int) from xor_one hc q, holds_bits ha (del_crowd hc p), mAnd_pure2]
        · rw [decide_eq_false q, mAnd_pure]
          rfl
      rw [hand, mIf_pure]
      by_cases q : thrB p a lots[k] = true
      · rw [if_pos q, chk_ok (by show _ ≤ 1000000; rw [List.length_map]; omega), pure_bind, pure_bind]
        refine Pu.pure ⟨d ++ [((k : Int), lots[k])], e, by rw [List.append_assoc]; exact hd, rfl, ?_⟩
        rw [List.filter_append, List.map_append, List.filter_cons_of_pos (by exact q)]
        rfl
      · rw [if_neg q, pure_bind]
        refine Pu.pure ⟨d ++ [((k : Int), lots[k])], e, by rw [List.append_assoc]; exact hd, rfl, ?_⟩
        rw [List.filter_append, List.map_append, List.filter_cons_of_neg (by exact q)]
        show _ = _ ++ []
        rw [List.append_nil]
  · obtain ⟨d, e, hd, hxs, rfl⟩ := hz
    cases e with
    | cons y e => cases hxs
    | nil =>
      rw [List.append_nil] at hd
      rw [hd]
      rfl
theorem flower_in_eq (h : LotsOk n lots) (hn : n ≤ 12) (hl : lots.length ≤ 60) (h0 : 0 ≤ p) (hpn : p < n) (ha : Crowd n a) : nd (m_flower_in (n, lots, lots.map bitsZ) p (bitsN a : Int)) = pure (flw lots p a) := by
  unfold m_flower_in
  simp only [pure_bind, opI_pure]
  rw [lotsT_eq h hn hl h0 hpn ha, pure_bind, mShl_ok (i := 1) (j := p) ⟨h0, by omega, by decide⟩]
  have hthr : ∀ l ∈ throughL lots p a, l ∈ lots ∧ p ∈ l := fun l hl => by
    obtain ⟨h1, h2⟩ := List.mem_filter.mp hl
    unfold thrB at h2
    rw [Bool.and_eq_true, decide_eq_true_eq] at h2
    exact ⟨h1, h2.1⟩
  have hmask : (lcM (fun _ => pure true) (fun x6 => opI Builtin.bitXor (ofO (L2.atI (lots.map bitsZ) x6)) (pure (1 * 2 ^ p.toNat))) (numsT lots p a) : M (List Int)) = pure (((throughL lots p a).map fun l => bitsN (del l p)).map fun m : Nat => (m : Int)) := by
    rw [lcM_map (g := fun i => bitsZ (del (lotZ lots i) p)) fun i hi => ?_]
    · rw [← nums_lots, List.map_map, List.map_map]
      rfl
    · obtain ⟨k, hk, rfl, hb⟩ := nums_mem hi
      unfold thrB at hb
      rw [Bool.and_eq_true, decide_eq_true_eq] at hb
      rw [atI_nat (by rw [List.length_map]; exact hk), ofO_some, opI_pure, List.getElem_map]
      have e : lotZ lots (k : Int) = lots[k] := by
        unfold lotZ
        rw [Int.toNat_natCast, List.getD_eq_getElem?_getD, List.getElem?_eq_getElem hk]
        rfl
      rw [e]
      congr 1
      exact xor_one ((h.lot _ (List.getElem_mem hk)).1) hb.1
  rw [hmask, pure_bind]
  generalize hms : ((throughL lots p a).map fun l => bitsN (del l p)) = ms
  have hL : (throughL lots p a).length ≤ lots.length := List.length_filter_le _ _
  have hmsl : ms.length = (throughL lots p a).length := by rw [← hms, List.length_map]
  have hnl : (numsT lots p a).length = (throughL lots p a).length := by rw [← nums_lots, List.length_map]
  have h4 : ∀ m ∈ ms, m < 4096 := fun m hm => by
    rw [← hms] at hm
    obtain ⟨l, hl, rfl⟩ := List.mem_map.mp hm
    have := bits_4096 (del_crowd (h.lot l (hthr l hl).1).1 p) hn
    omega
  refine pu_eq (nd_withP (P := PA ms) ?_)
  simp only [nilM_pure, pure_bind, List.length_nil, chk_ok (Nat.zero_le LIM)]
  refine (foldM_wp (fun (xs : List (Int × Int)) (z : List (List Int) × Int) => ∃ k u : Nat, k ≤ ms.length ∧ xs = (enumI (ms.map fun m : Nat => (m : Int))).drop k ∧ z.2 = (u : Int) ∧ u < 4096 ∧ z.1 ++ flL (fun l => bitsN (del l p)) ((throughL lots p a).drop k) u = flw lots p a ∧ z.1.length ≤ k) (fun x xs z hz => ?_) (by exact ⟨0, 0, Nat.zero_le _, rfl, rfl, by decide, rfl, Nat.le_refl 0⟩)).bind fun z hz => ?_
  · obtain ⟨k, u, hk, hxs, hz2, hu, hz1, hzl⟩ := hz
    have hlt : k < ms.length := Classical.byContradiction fun q => by
      rw [List.drop_eq_nil_of_le (by rw [enumI_length, List.length_map]; omega)] at hxs
      cases hxs
    rw [List.drop_eq_getElem_cons (by rw [enumI_length, List.length_map]; exact hlt)] at hxs
    obtain ⟨hx, rfl⟩ := List.cons.inj hxs
    have hx2 : x = ((k : Int), (ms[k] : Int)) := by
      have e := enumI_get (ms.map fun m : Nat => (m : Int)) k
      rw [List.getElem?_eq_getElem (by rw [enumI_length, List.length_map]; exact hlt), List.getElem?_map, List.getElem?_eq_getElem hlt, ← hx] at e
      exact Option.some.inj e
    subst hx2
    have hkL : k < (throughL lots p a).length := by omega
    have hmk : ms[k] = bitsN (del (throughL lots p a)[k] p) := by
      subst hms
      rw [List.getElem_map]
    have hdL : (throughL lots p a).drop k = (throughL lots p a)[k] :: (throughL lots p a).drop (k + 1) := List.drop_eq_getElem_cons hkL
    have hdm : ms.drop k = ((throughL lots p a).drop k).map fun l => bitsN (del l p) := by rw [← hms, List.map_drop]
    have hdm1 : ms.drop (k + 1) = ((throughL lots p a).drop (k + 1)).map fun l => bitsN (del l p) := by rw [← hms, List.map_drop]
    have h4k := h4 _ (List.getElem_mem hlt)
    dsimp only
    rw [hz2, band_nat, mIf_pure]
    have hstep : ∀ z' : List (List Int) × Int, (∃ u', z'.2 = ((u' : Nat) : Int) ∧ u' < 4096 ∧ z'.1 ++ flL (fun l => bitsN (del l p)) ((throughL lots p a).drop (k + 1)) u' = flw lots p a ∧ z'.1.length ≤ k + 1) → ∃ k' u' : Nat, k' ≤ ms.length ∧ (enumI (ms.map fun m : Nat => (m : Int))).drop (k + 1) = (enumI (ms.map fun m : Nat => (m : Int))).drop k' ∧ z'.2 = (u' : Int) ∧ u' < 4096 ∧ z'.1 ++ flL (fun l => bitsN (del l p)) ((throughL lots p a).drop k') u' = flw lots p a ∧ z'.1.length ≤ k' := fun z' ⟨u', q1, q2, q3, q4⟩ => ⟨k + 1, u', hlt, rfl, q1, q2, q3, q4⟩
    have hfl : flL (fun l => bitsN (del l p)) ((throughL lots p a).drop k) u = if ms[k] &&& u = 0 ∧ 1 + apN (ms.drop (k + 1)) (u ||| ms[k]) = apN (ms.drop k) u then (throughL lots p a)[k] :: flL (fun l => bitsN (del l p)) ((throughL lots p a).drop (k + 1)) (u ||| ms[k]) else flL (fun l => bitsN (del l p)) ((throughL lots p a).drop (k + 1)) u := by
      rw [hdm, hdm1, hdL, hmk]
      rfl
    rw [hfl] at hz1
    by_cases w : ms[k] &&& u = 0
    · rw [if_pos (by rw [decide_eq_true_eq]; omega)]
      refine Wp.bind (P := fun z' : List (List Int) × Int => ∃ u', z'.2 = ((u' : Nat) : Int) ∧ u' < 4096 ∧ z'.1 ++ flL (fun l => bitsN (del l p)) ((throughL lots p a).drop (k + 1)) u' = flw lots p a ∧ z'.1.length ≤ k + 1) ?_ fun z' hz' => Wp.pure (hstep z' hz')
      rw [bor_nat]
      refine Wp.bind (P := fun v : Int => v = ((1 + apN (ms.drop (k + 1)) (u ||| ms[k]) : Nat) : Int)) ?_ fun v hv => ?_
      · exact (apart_wp (by omega) h4 62 (k + 1) (u ||| ms[k]) (by omega) (by omega) (or_4096 hu h4k)).bind fun v hv => Wp.pure (by rw [hv]; push_cast; rfl)
      subst hv
      refine Wp.bind (P := fun z' : List (List Int) × Int => ∃ u', z'.2 = ((u' : Nat) : Int) ∧ u' < 4096 ∧ z'.1 ++ flL (fun l => bitsN (del l p)) ((throughL lots p a).drop (k + 1)) u' = flw lots p a ∧ z'.1.length ≤ k + 1) ?_ fun z' hz' => Wp.pure hz'
      refine Wp.mIf (T := fun b => b = decide (1 + apN (ms.drop (k + 1)) (u ||| ms[k]) = apN (ms.drop k) u)) ((apart_wp (by omega) h4 62 k u (by omega) (by omega) hu).bind fun v hv => Wp.pure (by rw [hv]; exact decide_eq_decide.mpr ⟨fun e => by omega, fun e => by omega⟩)) (fun hb => ?_) fun hb => ?_
      · have hb := of_decide_eq_true hb.symm
        rw [if_pos ⟨w, hb⟩] at hz1
        have hnk : k < (numsT lots p a).length := by omega
        obtain ⟨j, hj, hje, hjt⟩ := nums_mem (List.getElem_mem hnk)
        have hlz : (throughL lots p a)[k] = lots[j] := by
          have e : ((numsT lots p a).map (lotZ lots))[k]? = (throughL lots p a)[k]? := by rw [nums_lots]
          rw [List.getElem?_map, List.getElem?_eq_getElem hnk, List.getElem?_eq_getElem hkL] at e
          have e := Option.some.inj e
          rw [← e, hje]
          show lots.getD ((j : Nat) : Int).toNat [] = _
          rw [Int.toNat_natCast, List.getD_eq_getElem?_getD, List.getElem?_eq_getElem hj]
          rfl
        rw [atI_nat hnk, ofO_some, pure_bind, hje, atI_nat hj, ofO_some, show (consM (pure lots[j]) (pure []) : M (List (List Int))) = pure [lots[j]] from consM_pure, pure_bind, show (chk ([lots[j]] : List (List Int)).length : M Unit) = pure () from chk_ok (show 1 ≤ LIM by decide), pure_bind, pure_bind, chk_ok (by show _ ≤ 1000000; rw [List.length_singleton]; omega), pure_bind, pure_bind]
        refine Wp.pure ⟨u ||| ms[k], rfl, or_4096 hu h4k, ?_, ?_⟩
        · show (z.1 ++ [lots[j]]) ++ _ = _
          rw [List.append_assoc, ← hlz]
          exact hz1
        · show (z.1 ++ [lots[j]]).length ≤ k + 1
          rw [List.length_append, List.length_singleton]
          omega
      · have hb := of_decide_eq_false hb.symm
        rw [if_neg (fun q => hb q.2)] at hz1
        exact Wp.pure ⟨u, rfl, hu, hz1, by show z.1.length ≤ k + 1; omega⟩
    · rw [if_neg (by rw [decide_eq_true_eq]; omega)]
      rw [if_neg (fun q => w q.1)] at hz1
      exact Wp.pure (hstep _ ⟨u, rfl, hu, hz1, by show z.1.length ≤ k + 1; omega⟩)
  · obtain ⟨k, u, hk, hxs, hz2, hu, hz1, hzl⟩ := hz
    have hkm : ms.length ≤ k := Classical.byContradiction fun q => by
      rw [List.drop_eq_getElem_cons (by rw [enumI_length, List.length_map]; omega)] at hxs
      cases hxs
    rw [List.drop_eq_nil_of_le (by omega)] at hz1
    rw [show flL (fun l => bitsN (del l p)) [] u = [] from rfl, List.append_nil] at hz1
    exact Wp.pure hz1
theorem flw_sub : (flw lots p a).Sublist lots := flL_sub.trans List.filter_sublist
end
end W

namespace W
-- N5: rich lots
open PySem Dl
section
variable {n : Int}
theorem one_draw (h : 2 ≤ n) (h2 : n ≤ 100) : Wp SrcH (m_l_draw (n - 1) >>= fun j => pure (1 + j)) fun x => 0 ≤ x ∧ x < n := (draw_wpH (by omega) (by omega)).bind fun r hr => Wp.pure (by omega)
theorem rich_lots_wp (h : 2 ≤ n) (h2 : n ≤ 50) : Wp SrcH (m_l_rich_lots n) fun r => LotsOk n r ∧ r.length ≤ 16 := by
  have c5 : (consM (pure (1 : Int)) (consM (pure (1 : Int)) (consM (pure (2 : Int)) (consM (pure (2 : Int)) (consM (pure (3 : Int)) nilM)))) : M (List Int)) = pure [1, 1, 2, 2, 3] := rfl
  have c1 : (consM (pure (0 : Int)) nilM : M (List Int)) = pure [0] := rfl
  unfold m_l_rich_lots
  simp only [c5, c1, pure_bind, Dl.opI]
  rw [show (nilM : M (List (List Int))) = pure [] from rfl, pure_bind, List.length_nil, chk_ok (Nat.zero_le LIM), pure_bind, pure_bind]
  refine Wp.bind (P := fun xs : List Int => xs.length ≤ 8) (Wp.bind (P := fun r : Int => 2 ≤ r ∧ r ≤ 8) ((draw_wpH (by decide) (by decide)).bind fun r hr => Wp.pure (by omega)) fun r hr => ?_) fun xs hxs => ?_
  · rw [mRg_ok (a := 0) (b := r) (by omega) (by omega) (by omega) (by omega) (by omega)]
    exact Wp.pure (by rw [rg0_length]; omega)
  refine (foldM_wp (fun (xs : List Int) (z : List (List Int)) => z.length + 2 * xs.length ≤ 16 ∧ ∀ l ∈ z, Crowd n l) (fun x xs z hz => ?_) ⟨by rw [List.length_nil]; omega, fun l hl => absurd hl List.not_mem_nil⟩).bind fun z hz => ?_
  · obtain ⟨k1, k2⟩ := hz
    rw [List.length_cons] at k1
    refine Wp.bind (P := fun s : Int => 0 ≤ s ∧ s ≤ 3) ?_ fun s hs => ?_
    · rw [show (chk ([1, 1, 2, 2, 3] : List Int).length : M Unit) = pure () from chk_ok (show 5 ≤ LIM by decide), pure_bind, pure_bind]
      refine (draw_wpH (many := 5) (by decide) (by decide)).bind fun r hr => ?_
      rw [atI_in hr.1 (by show r < 5; omega) 0, ofO_some]
      refine Wp.pure ?_
      obtain ⟨k, rfl⟩ := Int.eq_ofNat_of_zero_le hr.1
      have : k < 5 := by omega
      have e : ∀ k < 5, 0 ≤ ([1, 1, 2, 2, 3] : List Int).getD k 0 ∧ ([1, 1, 2, 2, 3] : List Int).getD k 0 ≤ 3 := by decide
      exact e k this
    refine Wp.bind (P := fun r : List Int => r.length ≤ 3 ∧ ∀ x ∈ r, 0 ≤ x ∧ x < n) ?_ fun r hr => ?_
    · rw [mRg_ok (a := 0) (b := s) (by omega) (by omega) (by omega) (by omega) (by omega), pure_bind]
      refine (lcM_wp (R := fun _ x => 0 ≤ x ∧ x < n) fun x _ => one_draw h (by omega)).mono fun r hr => ⟨by rw [hr.1, rg0_length]; omega, fun x hx => ?_⟩
      obtain ⟨_, _, q⟩ := hr.2 x hx
      exact q
    obtain ⟨r1, r2⟩ := hr
    refine Wp.bind (P := Crowd n) ?_ fun a ha => ?_
    · rw [show (chk ([0] : List Int).length : M Unit) = pure () from chk_ok (show 1 ≤ LIM by decide), pure_bind, pure_bind, chk_ok (by show _ ≤ 1000000; rw [List.length_singleton]; omega), pure_bind, pure_bind]
      obtain ⟨q, hq, hc, _⟩ := setSortI_ok (n := n) (xs := [0] ++ r) (by rw [List.length_append, List.length_singleton]; omega) fun x hx => by
        rcases List.mem_append.mp hx with hx | hx
        · rw [List.mem_singleton.mp hx]; omega
        · exact r2 x hx
      rw [hq]
      exact Wp.pure hc
    rw [chk_ok (by show _ ≤ 1000000; omega), pure_bind]
    have hz1 : ∀ l ∈ z ++ [a], Crowd n l := fun l hl => by
      rcases List.mem_append.mp hl with hl | hl
      · exact k2 l hl
      · rw [List.mem_singleton.mp hl]; exact ha
    refine Wp.bind (P := fun w : List (List Int) => w.length + 2 * xs.length ≤ 16 ∧ ∀ l ∈ w, Crowd n l) (Wp.mIf (T := fun _ => True) ((draw_wpH (by decide) (by decide)).bind fun _ _ => Wp.pure trivial) (fun _ => ?_) fun _ => Wp.pure ⟨by rw [List.length_append, List.length_singleton]; omega, hz1⟩) fun w hw => Wp.pure hw
    refine Wp.bind (P := Crowd n) ?_ fun b hb => ?_
    · refine Wp.bind (P := fun l : List Int => l.length ≤ 4 ∧ ∀ x ∈ l, 0 ≤ x ∧ x < n) (Wp.bind (P := fun y : List Int => y.length = 1 ∧ ∀ x ∈ y, 0 ≤ x ∧ x < n) ?_ fun y hy => ?_) fun l hl => ?_
      · refine Wp.bind (P := fun y : List Int => y.length = 1 ∧ ∀ x ∈ y, 0 ≤ x ∧ x < n) ?_ fun y hy => ?_
        · unfold consM
          refine (one_draw h (by omega)).bind fun x hx => ?_
          rw [nilM_pure, pure_bind]
          exact Wp.pure ⟨rfl, fun w hw => by rw [List.mem_singleton.mp hw]; exact hx⟩
        · rw [hy.1, chk_ok (show 1 ≤ LIM by decide), pure_bind]
          exact Wp.pure hy
      · rw [hy.1, chk_ok (by show _ ≤ 1000000; omega), pure_bind]
        refine Wp.pure ⟨by rw [List.length_append, hy.1]; omega, fun x hx => ?_⟩
        rcases List.mem_append.mp hx with hx | hx
        · exact r2 x hx
        · exact hy.2 x hx
      · obtain ⟨q, hq, hc, _⟩ := setSortI_ok (n := n) (xs := l) (by omega) hl.2
        rw [hq]
        exact Wp.pure hc
    · rw [chk_ok (by show _ ≤ 1000000; rw [List.length_append, List.length_singleton]; omega), pure_bind]
      refine Wp.pure ⟨by rw [List.length_append, List.length_append, List.length_singleton, List.length_singleton]; omega, fun l hl => ?_⟩
      rcases List.mem_append.mp hl with hl | hl
      · exact hz1 l hl
      · rw [List.mem_singleton.mp hl]; exact hb
  · have := hz.1
    rw [List.length_nil] at this
    exact (least_lots_wp (by omega) hz.2).mono fun r hr => ⟨hr.1, by omega⟩
end
end W

namespace W
-- N6: rows of crowds judged
open PySem Dl
/-- a thing, and a tuple's items, short enough -/
def few2 : D → Prop
  | .tup l => l.length ≤ 1000 ∧ ∀ x ∈ l, fewD x
  | .tpd _ => False
  | _ => True
theorem few2_A {xs : List D} (h : xs.length ≤ 1000) (h2 : ∀ x ∈ xs, fewD x) : few2 (eT eId xs) := by
  show ((xs.map fun x => x).length ≤ 1000 ∧ _)
  rw [List.map_id']
  exact ⟨h, h2⟩
theorem few2_L {L : List (List Int)} (h1 : L.length ≤ 1000) (h2 : ∀ c ∈ L, c.length ≤ 1000) : few2 (eT (eT D.int) L) := by
  refine ⟨by rw [List.length_map]; exact h1, fun x hx => ?_⟩
  obtain ⟨c, hc, rfl⟩ := List.mem_map.mp hx
  exact few_T (h2 c hc)
theorem few2_T {L : List Int} (h1 : L.length ≤ 1000) : few2 (eT D.int L) := by
  refine ⟨by rw [List.length_map]; exact h1, fun x hx => ?_⟩
  obtain ⟨c, hc, rfl⟩ := List.mem_map.mp hx
  trivial
theorem deep2_wp : Wp SrcH m_l_deep few2 := by
  unfold m_l_deep
  have c2 : ∀ z : D, (consM (pure z) nilM : M (List D)) = pure [z] := fun z => consM_pure
  have c3 : ∀ z : D, (consM (pure z) (consM (pure z) nilM) : M (List D)) = pure [z, z] := fun z => by rw [c2, consM_pure]
  have c4 : ∀ z : D, (consM (pure z) (pure [z]) : M (List D)) = pure [z, z] := fun z => consM_pure
  simp only [c2, c3, c4, pure_bind, Dl.opI, List.length_cons, List.length_nil, chk_ok (show 0 + 1 ≤ LIM by decide), chk_ok (show 0 + 1 + 1 ≤ LIM by decide)]
  refine Wp.bind (P := fun z => fewD z ∧ few2 z) (Wp.bind (P := LN 4 fun z => fewD z ∧ few2 z) (chkL_wp (k := 4) ?_ (by decide)) fun l hl => pickH_wp hl rfl (by decide) (by decide)) fun d0 hd0 => ?_
  · exact consp_wp ⟨trivial, trivial⟩ (consp_wp ⟨trivial, trivial⟩ (consp_wp ⟨trivial, trivial⟩ (oneH_wp ⟨trivial, trivial⟩)))
  refine Wp.bind (P := fun _ : List Int => True) (Wp.bind (P := fun r : Int => 1 ≤ r ∧ r ≤ 30) ((draw_wpH (by decide) (by decide)).bind fun r hr => Wp.pure (by omega)) fun m hm => ?_) fun xs _ => ?_
  · rw [mRg_ok (a := 0) (b := m) (by omega) (by omega) (by omega) (by omega) (by omega)]
    exact Wp.pure trivial
  refine (foldM_wp (fun (_ : List Int) (z : D) => fewD z ∧ few2 z) (fun x xs z hz => ?_) hd0).bind fun z hz => Wp.pure hz.2
  refine Wp.bind (P := fun z => fewD z ∧ few2 z) ?_ fun z hz => Wp.pure hz
  have hl : (cutL [z, z] none (some (1 : Int))) = [z] := by
    rw [cutL_take _ (by decide)]
    rfl
  have h1 : fewD (eT eId [z]) ∧ few2 (eT eId [z]) := ⟨few_A (Nat.le_of_ble_eq_true rfl), few2_A (Nat.le_of_ble_eq_true rfl) fun x hx => by rw [List.mem_singleton.mp hx]; exact hz.1⟩
  rw [hl]
  refine Wp.bind (P := LN 4 fun z => fewD z ∧ few2 z) (chkL_wp (k := 4) ?_ (by decide)) fun l hl => pickH_wp hl rfl (by decide) (by decide)
  exact consp_wp h1 (consp_wp ⟨trivial, trivial⟩ (consp_wp h1 (oneH_wp ⟨trivial, trivial⟩)))
theorem inD_TN {α : Type} [DecidableEq α] {enc : α → D} {k : Nat} (E : Eqs enc k) (hk : k < 60) (x : α) (xs : List α) (neg : Bool) : inD neg (enc x) (eT enc xs) = pure (if neg then !decide (x ∈ xs) else decide (x ∈ xs)) := by
  have hsh : SeqAt.shaped (.list (pys (xs.map enc))) = true := by
    have q := (Eqs.lst E hk).sh xs
    have e2 : py (eL enc xs) = .list (pys (xs.map enc)) := by
      show py (.lst (xs.map enc)) = _
      rw [py]
    rw [← e2]
    exact q
  show (if (SeqAt.shaped (py (enc x)) && SeqAt.shaped (.list (pys (xs.map enc)))) = true then _ else _) = _
  rw [E.sh, hsh, Bool.and_self, if_pos rfl, any_eqs E]
theorem in_iN (x : Int) (xs : List Int) : inD false (.int x) (eT D.int xs) = pure (decide (x ∈ xs)) := inD_TN Eqs.int (by decide) x xs false
/-- a crowd with p -/
def withB (n p : Int) (d : D) : Bool := crowdD n d && (match deT deI d with
  | some z => decide (p ∈ z)
  | none => false)
theorem withB_inv {n p : Int} {d : D} (h : withB n p d = true) : ∃ z, d = eT D.int z ∧ Crowd n z ∧ p ∈ z := by
  unfold withB at h
  rw [Bool.and_eq_true] at h
  obtain ⟨z, rfl, hz⟩ := crowdD_inv h.1
  have h2 := h.2
  rw [deTI] at h2
  exact ⟨z, rfl, hz, of_decide_eq_true h2⟩
theorem with_and {n p : Int} {d : D} : mAnd (pure (crowdD n d)) (inD false (.int p) d) = (pure (withB n p d) : M Bool) := by
  unfold withB
  cases q : crowdD n d with
  | false => rfl
  | true =>
    obtain ⟨z, rfl, hz⟩ := crowdD_inv q
    rw [in_iN, deTI, mAnd_pure2]
theorem rows_of {n p : Int} : ∀ {ds : List D}, (∀ d ∈ ds, withB n p d = true) → ∃ cs : List (List Int), ds = cs.map (eT D.int) ∧ ∀ c ∈ cs, Crowd n c ∧ p ∈ c
  | [], _ => ⟨[], rfl, fun c hc => nomatch hc⟩
  | d :: ds, h => by
    obtain ⟨z, rfl, hz⟩ := withB_inv (h d List.mem_cons_self)
    obtain ⟨cs, rfl, hcs⟩ := rows_of fun x hx => h x (List.mem_cons_of_mem _ hx)
    refine ⟨z :: cs, rfl, fun c hc => ?_⟩
    rcases List.mem_cons.mp hc with rfl | hc
    · exact hz
    · exact hcs c hc
section
variable {S : List D → Prop} {α : Type} {P : α → Prop} {k : Nat}
/-- lists of so many, or of so many at most -/
theorem nilN : Wp S (nilM : M (List α)) fun l => l.length = 0 ∧ ∀ x ∈ l, P x := Wp.pure ⟨rfl, fun x hx => nomatch hx⟩
theorem consN {m : M α} {ml : M (List α)} (h : Wp S m P) (hl : Wp S ml fun l => l.length = k ∧ ∀ x ∈ l, P x) : Wp S (consM m ml) fun l => l.length = k + 1 ∧ ∀ x ∈ l, P x := by
  unfold consM
  refine h.bind fun a ha => hl.bind fun l hl => Wp.pure ⟨by rw [List.length_cons, hl.1], fun x hx => ?_⟩
  rcases List.mem_cons.mp hx with rfl | hx
  · exact ha
  · exact hl.2 x hx
theorem chkN {ml : M (List α)} (h : Wp S ml fun l => l.length = k ∧ ∀ x ∈ l, P x) (hk : k ≤ LIM) : Wp S (ml >>= fun l => chk l.length >>= fun _ => pure l) fun l => l.length = k ∧ ∀ x ∈ l, P x := h.bind fun l hl => by
  rw [hl.1, chk_ok hk, pure_bind]
  exact Wp.pure hl
theorem catN {a b : M (List α)} {i j : Nat} (ha : Wp S a fun l => l.length ≤ i ∧ ∀ x ∈ l, P x) (hb : Wp S b fun l => l.length ≤ j ∧ ∀ x ∈ l, P x) (h : i + j ≤ 100000) : Wp S (a >>= fun x => b >>= fun y => chk (x.length + y.length) >>= fun _ => pure (x ++ y)) fun l => l.length ≤ i + j ∧ ∀ x ∈ l, P x := ha.bind fun x hx => hb.bind fun y hy => by
  rw [chk_ok (by show _ ≤ 1000000; omega), pure_bind]
  refine Wp.pure ⟨by rw [List.length_append]; omega, fun z hz => ?_⟩
  rcases List.mem_append.mp hz with hz | hz
  · exact hx.2 z hz
  · exact hy.2 z hz
theorem cut_in {l : List α} {x : α} {lo hi : Option Int} (h : x ∈ cutL l lo hi) : x ∈ l := List.mem_of_mem_drop (List.mem_of_mem_take h)
end
end W

namespace W
open PySem Dl
section
variable {n p : Int} {lots : List (List Int)} {o c : List Int} {f : D_Office}
theorem flagH (a b : Bool) : m_l_flag__B_B a b = pure (decide (a = b)) := by
  unfold m_l_flag__B_B
  simp only [pure_bind, mAnd_pure]
  rfl
theorem fst_off (hf : OffOk n lots o f) : f.1 = (n, lots, lots.map bitsZ) ∧ f.2.1 = o := by
  obtain ⟨_, rfl, _⟩ := hf
  exact ⟨rfl, rfl⟩
theorem check_person_eq (h : 0 ≤ p ∧ p < n) : m_check_person n p = pure () := by
  unfold m_check_person
  simp only [pure_bind, opI_pure]
  rw [is_within_eq, pure_bind]
  have : withinD 0 (n - 1) (D.int p) = true := by
    show (decide (0 ≤ p) && decide (p ≤ n - 1)) = true
    rw [decide_eq_true h.1, decide_eq_true (show p ≤ n - 1 by omega)]
    rfl
  rw [this, Bool.not_true, mIf_false]
/-- those ahead of p -/
def aheadB (n p : Int) (o : List Int) : List Int := asc n (o.take (o.idxOf p))
theorem ahead_of_eq (h : OrdOk n lots o) (hf : OffOk n lots o f) (hn : n ≤ 12) (hp : 0 ≤ p ∧ p < n) : m_ahead_of f p = pure (bitsN (aheadB n p o) : Int) := by
  have hff := fst_off hf
  have hmem : p ∈ o := h.mem.mpr hp
  unfold m_ahead_of
  simp only [pure_bind]
  rw [hff.2]
  have hix : (ofO (idxI o p) : M Int) = pure (o.idxOf p : Int) := by
    unfold idxI
    rw [if_pos hmem, ofO_some]
  have hr : ∀ x ∈ o.take (o.idxOf p), 0 ≤ x ∧ x < n := fun x hx => h.mem.mp (List.mem_of_mem_take hx)
  have hcut : cutN o none (some (o.idxOf p : Int)) = pure (o.take (o.idxOf p)) := by
    have hlt := List.idxOf_lt_length_of_mem hmem
    unfold cutN
    rw [HT.sIx_none, HT.sIx_nat, Nat.min_eq_left (by omega), if_neg (by omega), cutL_take _ (by omega), Int.toNat_natCast]
  rw [hix, pure_bind, pure_bind, hcut, pure_bind, bitsOf_eq (l := o.take (o.idxOf p)) fun x hx => ⟨(hr x hx).1, by have := (hr x hx).2; omega⟩]
  unfold aheadB
  rw [bits_congr (h.nodup.sublist (List.take_sublist _ _)) (asc_crowd n _).nodup (fun x hx => (hr x hx).1) fun x => (mem_asc' hr).symm]
theorem longest_eq (h : OrdOk n lots o) (hf : OffOk n lots o f) (hn : n ≤ 12) (hl : lots.length ≤ 60) (hp : 0 ≤ p ∧ p < n) : m_longest_out f p = pure (flw lots p (aheadB n p o)) := by
  have hff := fst_off hf
  unfold m_longest_out
  simp only [pure_bind]
  rw [hff.1, check_person_eq hp, pure_bind, ahead_of_eq h hf hn hp, pure_bind]
  exact (flower_in_eq h.lots hn hl hp.1 hp.2 (asc_crowd n _))
/-- out all along -/
def outL (lots : List (List Int)) (p : Int) : List Int → List (List Int) → Bool
  | _, [] => true
  | o, c :: cs => if p ∈ letL (SO lots o) c o then false else outL lots p (nextO lots o c) cs
theorem out_loopP (h0 : 0 ≤ n) (hn : n ≤ 12) (hl : lots.length ≤ 60) {F : D_Office → D → M (D_Office ⊕ Bool)} (hF : ∀ o f c, OrdOk n lots o → OffOk n lots o f → Crowd n c → F f (eT D.int c) = if p ∈ letL (SO lots o) c o then pure (Sum.inr false) else m_day_behind f (bitsN c : Int) >>= fun g => pure (Sum.inl g)) : ∀ (cs : List (List Int)) (o : List Int) (f : D_Office), OrdOk n lots o → OffOk n lots o f → (∀ c ∈ cs, Crowd n c) → bindS (loopM F (cs.map (eT D.int)) f) (fun _ => pure true) (fun b => b) = pure (outL lots p o cs)
  | [], o, f, _, _, _ => rfl
  | c :: cs, o, f, ho, hf, hc => by
    rw [List.map_cons]
    unfold loopM
    rw [hF o f c ho hf (hc c List.mem_cons_self)]
    unfold outL
    by_cases q : p ∈ letL (SO lots o) c o
    · rw [if_pos q, if_pos q, pure_bind]
      rfl
    · obtain ⟨g, hg, hgo⟩ := day_eq ho hf h0 hn hl (hc c List.mem_cons_self)
      rw [if_neg q, if_neg q, hg, pure_bind, pure_bind]
      exact out_loopP h0 hn hl hF cs _ g (next_ok ho) hgo fun x hx => hc x (List.mem_cons_of_mem _ hx)
theorem out_loopL {F : List Int → D → M (List Int ⊕ Bool)} (hF : ∀ o c, OrdOk n lots o → Crowd n c → F o (eT D.int c) = if p ∈ letL (SO lots o) c o then pure (Sum.inr false) else pure (Sum.inl (nextO lots o c))) : ∀ (cs : List (List Int)) (o : List Int), OrdOk n lots o → (∀ c ∈ cs, Crowd n c) → bindS (loopM F (cs.map (eT D.int)) o) (fun _ => pure true) (fun b => b) = pure (outL lots p o cs)
  | [], o, _, _ => rfl
  | c :: cs, o, ho, hc => by
    rw [List.map_cons]
    unfold loopM
    rw [hF o c ho (hc c List.mem_cons_self)]
    unfold outL
    by_cases q : p ∈ letL (SO lots o) c o
    · rw [if_pos q, if_pos q, pure_bind]
      rfl
    · rw [if_neg q, if_neg q, pure_bind]
      exact out_loopL hF cs _ (next_ok ho) fun x hx => hc x (List.mem_cons_of_mem _ hx)
theorem out_both (h : OrdOk n lots o) (hf : OffOk n lots o f) (h0 : 0 ≤ n) (hn : n ≤ 12) (hl : lots.length ≤ 60) (hp : 0 ≤ p ∧ p < n) {d : D} (hd : few2 d) : ∃ b, m_is_out_through f p d = pure b ∧ m_l_due (lots.map bitsZ) o n p d = pure b := by
  have hff := fst_off hf
  unfold m_is_out_through m_l_due m_are_crowds_with
  simp only [pure_bind]
  rw [hff.1, check_person_eq hp, pure_bind]
  cases d with
  | tup ds =>
    have hfew : ∀ x ∈ ds, fewD x := hd.2
    rw [show isB "tuple" (eId (D.tup ds)) = true from rfl, show (ofO (seqsD (D.tup ds)) : M (List D)) = pure ds from rfl, pure_bind, pure_bind, pure_bind]
    rw [lcM_map (g := withB n p) fun x hx => by rw [crowd_eq n x (hfew x hx)]; exact with_and]
    rw [lcM_map (g := withB n p) fun x hx => by rw [l_crowd_eq n x (hfew x hx)]; exact with_and]
    rw [pure_bind, pure_bind, mAnd_pure2, Bool.true_and, Bool.not_true, mOr_pure2, Bool.false_or, pure_bind]
    cases q : (ds.map (withB n p)).all id with
    | false => exact ⟨false, mIf_true, mIf_true⟩
    | true =>
      rw [Bool.not_true, mIf_false, mIf_false]
      obtain ⟨cs, rfl, hcs⟩ := rows_of (n := n) (p := p) (ds := ds) fun x hx => by
        have := List.all_eq_true.mp q (withB n p x) (List.mem_map_of_mem hx)
        exact this
      refine ⟨outL lots p o cs, out_loopP h0 hn hl (fun o f c ho hf hc => ?_) cs o f h hf fun c hc => (hcs c hc).1, out_loopL (fun o c ho hc => ?_) cs o h fun c hc => (hcs c hc).1⟩
      · have hr : ∀ y ∈ letL (SO lots o) c o, 0 ≤ y := fun y hy => (hc.2 y (letL_mem hy).2).1
        rw [show (ofO ((deT deI) (eT D.int c)) : M (List Int)) = pure c from by rw [deTI]; rfl, pure_bind, bitsOf_eq (l := c) (fun x hx => ⟨(hc.2 x hx).1, by have := (hc.2 x hx).2; omega⟩), pure_bind, in_bits_eq ho hf (by omega) hc, pure_bind, mShr_ok hp.1, pure_bind]
        simp only [opI_pure, pure_bind]
        rw [bit_eq (letL_nodup ho.nodup) hr hp.1, mIf_pure]
        by_cases q : p ∈ letL (SO lots o) c o
        · rw [if_pos (decide_eq_true q), if_pos q]
        · rw [if_neg (by rw [decide_eq_true_eq]; exact q), if_neg q]
      · have hr : ∀ y ∈ letL (SO lots o) c o, 0 ≤ y := fun y hy => (hc.2 y (letL_mem hy).2).1
        rw [show (ofO ((deT deI) (eT D.int c)) : M (List Int)) = pure c from by rw [deTI]; rfl, pure_bind, lbits_eq (l := c) (fun x hx => ⟨(hc.2 x hx).1, by have := (hc.2 x hx).2; omega⟩), pure_bind, l_letC_eq ho hn hc, pure_bind, mShr_ok hp.1, pure_bind, mMod_ok (by decide), pure_bind, mod_bit (letL_nodup ho.nodup) hr hp.1, mIf_pure, l_next_eq ho hn hc, pure_bind]
        by_cases q : p ∈ letL (SO lots o) c o
        · rw [if_pos q, if_pos q]
          rfl
        · rw [if_neg q, if_neg q]
          rfl
  | tpd l => exact hd.elim
  | _ => exact ⟨false, mIf_true, mIf_true⟩
theorem or_bits {a b : Nat} (h0 : 0 ≤ n) (ha : a < 2 ^ n.toNat) (hb : b < 2 ^ n.toNat) : a ||| b < 2 ^ n.toNat := Nat.or_lt_two_pow ha hb
theorem drawn_bits (h0 : 0 ≤ n) (hn : n ≤ 12) (hp : 0 ≤ p ∧ p < n) : Wp SrcH (opI Builtin.bitOr (mShl 1 n >>= fun a => m_l_draw a) (mShl 1 p)) fun b => ∃ c, Crowd n c ∧ b = (bitsN c : Int) := by
  have h1 := Nat.pow_le_pow_right (show 0 < 2 by decide) (show n.toNat ≤ 12 by omega)
  have h2 : 1 ≤ 2 ^ n.toNat := Nat.one_le_two_pow
  unfold Dl.opI
  rw [mShl_ok (i := 1) (j := n) ⟨h0, by omega, by decide⟩, one_shl, pure_bind, mShl_ok (i := 1) (j := p) ⟨hp.1, by omega, by decide⟩, one_shl]
  refine (draw_wpH (many := ((2 ^ n.toNat : Nat) : Int)) (by omega) (by omega)).bind fun r hr => ?_
  obtain ⟨b, rfl⟩ := Int.eq_ofNat_of_zero_le hr.1
  rw [pure_bind, bor_nat]
  have hb : b ||| 2 ^ p.toNat < 2 ^ n.toNat := or_bits h0 (by omega) (Nat.pow_lt_pow_right (by decide) (by omega))
  refine Wp.pure ⟨crowdB (b ||| 2 ^ p.toNat), crowdB_crowd h0 hn hb, ?_⟩
  rw [bits_crowdB (Nat.lt_of_lt_of_le hb h1)]
theorem led_wp (h : OrdOk n lots o) (h0 : 0 ≤ n) (hn : n ≤ 12) (hp : 0 ≤ p ∧ p < n) : Wp SrcH (m_l_led (lots.map bitsZ) o n p) fun r => r.length ≤ 8 ∧ ∀ c ∈ r, Crowd n c := by
  unfold m_l_led
  simp only [nilM_pure, pure_bind, List.length_nil, chk_ok (Nat.zero_le LIM)]
  rw [mRg_ok (a := 0) (b := 8) (by decide) (by decide) (by decide) (by decide) (by decide), pure_bind]
  refine (foldM_wp (fun (xs : List Int) (z : List (List Int) × List Int) => OrdOk n lots z.2 ∧ z.1.length + xs.length ≤ 8 ∧ ∀ c ∈ z.1, Crowd n c) (fun x xs z hz => ?_) (show OrdOk n lots o ∧ 0 + (rg 0 8).length ≤ 8 ∧ _ from ⟨h, by decide, fun c hc => nomatch hc⟩)).bind fun z hz => Wp.pure ⟨by have := hz.2.1; rw [List.length_nil] at this; omega, hz.2.2⟩
  obtain ⟨z1, z2⟩ := z
  obtain ⟨k1, k2, k3⟩ := hz
  have k1 : OrdOk n lots z2 := k1
  have k2 : z1.length + (x :: xs).length ≤ 8 := k2
  have k3 : ∀ c ∈ z1, Crowd n c := k3
  rw [List.length_cons] at k2
  dsimp only
  refine (drawn_bits h0 hn hp).bind fun b hb => ?_
  obtain ⟨c, hc, rfl⟩ := hb
  have hr : ∀ y ∈ letL (SO lots z2) c z2, 0 ≤ y := fun y hy => (hc.2 y (letL_mem hy).2).1
  rw [l_letC_eq k1 hn hc, pure_bind, mShr_ok hp.1, pure_bind, mMod_ok (by decide), pure_bind, mod_bit (letL_nodup k1.nodup) hr hp.1, mIf_pure, l_next_eq k1 hn hc, lcrowd_eq, crowdB_bits hc hn]
  refine Wp.bind (P := fun z : List (List Int) × List Int => OrdOk n lots z.2 ∧ z.1.length + xs.length ≤ 8 ∧ ∀ c ∈ z.1, Crowd n c) ?_ fun z hz => Wp.pure hz
  by_cases q : p ∈ letL (SO lots z2) c z2
  · rw [if_pos q, if_neg (by decide)]
    exact Wp.pure ⟨k1, by show z1.length + _ ≤ 8; omega, k3⟩
  · rw [if_neg q, if_pos (by decide)]
    rw [show (consM (pure c) (pure []) : M (List (List Int))) = pure [c] from consM_pure, pure_bind, show (chk ([c] : List (List Int)).length : M Unit) = pure () from chk_ok (show 1 ≤ LIM by decide), pure_bind, pure_bind, chk_ok (by show _ ≤ 1000000; rw [List.length_singleton]; omega), pure_bind, pure_bind, pure_bind]
    refine Wp.pure ⟨next_ok k1, by show (z1 ++ [c]).length + _ ≤ 8; rw [List.length_append, List.length_singleton]; omega, fun x hx => ?_⟩
    rcases List.mem_append.mp hx with hx | hx
    · exact k3 x hx
    · rw [List.mem_singleton.mp hx]; exact hc
/-- rows of crowds, not too long -/
def RowF (L : List (List Int)) : Prop := L.length ≤ 100 ∧ ∀ c ∈ L, c.length ≤ 100
theorem row_few {L : List (List Int)} {k : Nat} (hk : k ≤ 1000) (h : L.length ≤ k ∧ ∀ c ∈ L, c.length ≤ 100) : few2 (eT (eT D.int) L) := few2_L (by omega) fun c hc => by have := h.2 c hc; omega
theorem bent_wp {row : List (List Int)} (h0 : 0 ≤ n) (hn : n ≤ 12) (hp : 0 ≤ p ∧ p < n) (hr : RowF row) : Wp SrcH (m_l_bent n p row) few2 := by
  obtain ⟨hr1, hr2⟩ := hr
  have hcut : ∀ lo hi, (cutL row lo hi).length ≤ 100 ∧ ∀ c ∈ cutL row lo hi, c.length ≤ 100 := fun lo hi => ⟨Nat.le_trans (cutL_length _ _ _) hr1, fun c hc => hr2 c (cut_in hc)⟩
  have hcutD : ∀ lo hi, ((cutL row lo hi).map (eT D.int)).length ≤ 100 ∧ ∀ d ∈ (cutL row lo hi).map (eT D.int), fewD d := fun lo hi => ⟨by rw [List.length_map]; exact (hcut lo hi).1, fun d hd => by
    obtain ⟨c, hc, rfl⟩ := List.mem_map.mp hd
    exact few_T (by have := (hcut lo hi).2 c hc; omega)⟩
  have nt : ∀ {a b : Int}, Wp SrcH (pure a >>= fun x => pure b >>= fun y => pure (decide (x = y)) : M Bool) fun _ => True := fun {a b} => by
    simp only [pure_bind]
    exact Wp.pure trivial
  unfold m_l_bent
  refine Wp.bind (P := fun _ => True) (by rw [pure_bind]; exact (draw_wpH (by decide) (by decide)).mono fun _ _ => trivial) fun kind _ => ?_
  refine Wp.bind (P := fun _ => True) (by simp only [pure_bind]; exact (draw_wpH (by omega) (by omega)).mono fun _ _ => trivial) fun at_ _ => ?_
  refine Wp.bind (P := Crowd n) (Wp.bind (P := fun b => ∃ c, Crowd n c ∧ b = (bitsN c : Int)) (by simp only [pure_bind]; exact drawn_bits h0 hn hp) fun b hb => ?_) fun c hc => ?_
  · obtain ⟨c, hc, rfl⟩ := hb
    rw [lcrowd_eq, crowdB_bits hc hn]
    exact Wp.pure hc
  have hcl : c.length ≤ 100 := by have := crowd_few hc (show n ≤ 100 by omega); omega
  have one : Wp SrcH (consM (pure c) nilM >>= fun l => chk l.length >>= fun _ => pure l) fun l : List (List Int) => l.length ≤ 1 ∧ ∀ x ∈ l, x.length ≤ 100 := (chkN (consN (P := fun x : List Int => x.length ≤ 100) (Wp.pure hcl) nilN) (show 0 + 1 ≤ LIM by decide)).mono fun l hl => ⟨by omega, hl.2⟩
  refine Wp.mIf (T := fun _ => True) nt (fun _ => ?_) fun _ => Wp.mIf (T := fun _ => True) nt (fun _ => ?_) fun _ => Wp.mIf (T := fun _ => True) nt (fun _ => ?_) fun _ => Wp.mIf (T := fun _ => True) nt (fun _ => ?_) fun _ => Wp.mIf (T := fun _ => True) nt (fun _ => ?_) fun _ => Wp.mIf (T := fun _ => True) nt (fun _ => ?_) fun _ => deep2_wp
  · refine Wp.bind (P := few2) (Wp.bind (P := fun l : List (List Int) => l.length ≤ 100 + 1 + 100 ∧ ∀ x ∈ l, x.length ≤ 100) ?_ fun l hl => Wp.pure (row_few (by decide) hl)) fun d hd => Wp.pure hd
    exact catN (catN (by simp only [pure_bind]; exact Wp.pure (hcut _ _)) one (by decide)) (by simp only [pure_bind]; exact Wp.pure (hcut _ _)) (by decide)
  · refine Wp.bind (P := few2) (Wp.bind (P := fun l : List (List Int) => l.length ≤ 100 + 100 ∧ ∀ x ∈ l, x.length ≤ 100) ?_ fun l hl => Wp.pure (row_few (by decide) hl)) fun d hd => Wp.pure hd
    exact catN (by simp only [pure_bind]; exact Wp.pure (hcut _ _)) (by simp only [pure_bind]; exact Wp.pure (hcut _ _)) (by decide)
  · refine Wp.bind (P := few2) (Wp.bind (P := fun l : List (List Int) => l.length ≤ 100 + 1 + 100 ∧ ∀ x ∈ l, x.length ≤ 100) ?_ fun l hl => Wp.pure (row_few (by decide) hl)) fun d hd => Wp.pure hd
    exact catN (catN (by simp only [pure_bind]; exact Wp.pure (hcut _ _)) one (by decide)) (by simp only [pure_bind]; exact Wp.pure (hcut _ _)) (by decide)
  · simp only [pure_bind]
    exact Wp.pure (row_few (k := 100) (by decide) ⟨by rw [List.length_reverse]; exact hr1, fun c hc => hr2 c (List.mem_reverse.mp hc)⟩)
  · refine Wp.bind (P := few2) (Wp.bind (P := fun l : List D => l.length ≤ 100 + 1 + 100 ∧ ∀ x ∈ l, fewD x) ?_ fun l hl => Wp.pure (few2_A (by omega) hl.2)) fun d hd => Wp.pure hd
    exact catN (catN (by simp only [pure_bind]; exact Wp.pure (hcutD _ _)) ((chkN (consN (P := fewD) (by simp only [pure_bind]; exact bent_wpH hcl) nilN) (show 0 + 1 ≤ LIM by decide)).mono fun l hl => ⟨by omega, hl.2⟩) (by decide)) (by simp only [pure_bind]; exact Wp.pure (hcutD _ _)) (by decide)
  · have e1 : (consM (pure row) nilM : M (List (List (List Int)))) = pure [row] := consM_pure
    simp only [pure_bind, e1, List.length_cons, List.length_nil, chk_ok (show 0 + 1 ≤ LIM by decide)]
    refine Wp.bind (P := few2) (Wp.bind (P := fun l : List D => l.length = 0 + 1 + 1 + 1 + 1 + 1 + 1 + 1 + 1 ∧ ∀ x ∈ l, few2 x) (chkN ?_ (by decide)) fun l hl => ?_) fun d hd => Wp.pure hd
    · refine consN (Wp.pure trivial) (consN (Wp.pure trivial) (consN (Wp.pure trivial) (consN (Wp.pure trivial) (consN (Wp.pure trivial) (consN (Wp.pure (few2_T (by omega))) (consN (Wp.pure ⟨Nat.le_of_ble_eq_true rfl, fun x hx => ?_⟩) (consN (Wp.pure trivial) nilN)))))))
      rw [List.mem_singleton.mp hx]
      show (row.map (eT D.int)).length ≤ 1000
      rw [List.length_map]
      omega
    · refine (draw_wpH (many := 8) (by decide) (by decide)).bind fun r hr => ?_
      have hlt : r.toNat < l.length := by rw [hl.1]; omega
      rw [atI_in hr.1 (by rw [hl.1]; omega) D.non, ofO_some, List.getD_eq_getElem?_getD, List.getElem?_eq_getElem hlt]
      exact Wp.pure (hl.2 _ (List.getElem_mem hlt))
end
theorem law_true : ∀ ns : List Int, ns.length ≤ 63 → Okk (m_law ns []) fun b _ => b = true := by
  intro ns hns
  have H : Wp (fun s => s = []) (m_law ns) fun b => b = true := by
    unfold m_law
    simp only [pure_bind]
    refine (hand_ok ns (by omega)).bind fun src hsrc => ?_
    refine withS_wp (S := SrcH) (fun e => hsrc.1 (List.map_eq_nil_iff.mp e)) (by rw [List.length_map]; exact hsrc.2.1) hsrc.2.2 ?_
    refine Wp.bind (P := fun n : Int => 2 ≤ n ∧ n ≤ 6) ((draw_wpH (many := 5) (by decide) (by decide)).bind fun r hr => Wp.pure (by omega)) fun n hn => ?_
    refine (rich_lots_wp hn.1 (by omega)).bind fun lots hl => ?_
    have hL := hl.1
    have hll := hl.2
    have h0 : 0 ≤ n := by omega
    refine (order_wpH (by omega) (by omega)).bind fun o ho => ?_
    have hO : OrdOk n lots o := ⟨hL, ho⟩
    refine Wp.bind (P := OffOk n lots o) ((book_wp hL (by omega) (by omega) (by omega)).bind fun bk hb => by subst hb; exact (office_eq hO h0 (by omega) (by omega)).wp) fun f hf => ?_
    rw [masks_eq hL (by omega), pure_bind]
    refine Wp.bind (P := fun p : Int => 0 ≤ p ∧ p < n) (Wp.bind (P := fun l : List Int => l.length = 0 + 1 + 1 ∧ ∀ x ∈ l, 0 ≤ x ∧ x < n) (chkN (consN (Wp.pure (by omega)) (consN (draw_wpH (by omega) (by omega)) nilN)) (by decide)) fun l hl => ?_) fun p hp => ?_
    · refine Wp.bind (P := fun i : Int => i = 0 ∨ i = 1) (Wp.bind (P := fun _ => True) ((draw_wpH (by decide) (by decide)).bind fun _ _ => Wp.pure trivial) fun b _ => Wp.pure (by cases b <;> simp)) fun i hi => ?_
      have hi0 : 0 ≤ i ∧ i < 2 := by omega
      have hlt : i.toNat < l.length := by rw [hl.1]; omega
      rw [atI_in hi0.1 (by rw [hl.1]; omega) 0, ofO_some, List.getD_eq_getElem?_getD, List.getElem?_eq_getElem hlt]
      exact Wp.pure (hl.2 _ (List.getElem_mem hlt))
    have hcf : ∀ c, Crowd n c → c.length ≤ 100 := fun c hc => by have := crowd_few hc (show n ≤ 100 by omega); omega
    refine Wp.bind (P := fun l : List (List (List Int)) => l.length = 0 + 1 + 1 + 1 ∧ ∀ x ∈ l, RowF x) (chkN (consN ?_ (consN ?_ (consN ?_ nilN))) (by decide)) fun rows hrows => ?_
    · rw [longest_eq hO hf (by omega) (by omega) hp]
      refine Wp.pure ⟨Nat.le_trans flw_sub.length_le (by omega), fun c hc => hcf c (hL.lot c (flw_sub.subset hc)).1⟩
    · exact (led_wp hO h0 (by omega) hp).mono fun r hr => ⟨by omega, fun c hc => hcf c (hr.2 c hc)⟩
    · rw [nilM_pure, pure_bind, List.length_nil, chk_ok (Nat.zero_le LIM), pure_bind]
      exact Wp.pure ⟨Nat.zero_le _, fun c hc => nomatch hc⟩
    rw [mRg_ok (a := 0) (b := 10) (by decide) (by decide) (by decide) (by decide) (by decide), pure_bind]
    refine bindS_wp (I := fun _ => True) (R := fun _ => False) ((loopM_wp (fun (_ : List Int) (_ : Unit) => True) (fun _ => False) (fun x' xs' z' _ => ?_) trivial).mono fun r hr => ?_) (fun _ _ => Wp.pure rfl) fun y hy => hy.elim
    · refine Wp.bind (P := RowF) ((draw_wpH (many := 3) (by decide) (by decide)).bind fun r hr => ?_) fun row hrow => ?_
      · have hlt : r.toNat < rows.length := by rw [hrows.1]; omega
        rw [atI_in hr.1 (by rw [hrows.1]; omega) [], ofO_some, List.getD_eq_getElem?_getD, List.getElem?_eq_getElem hlt]
        exact Wp.pure (hrows.2 _ (List.getElem_mem hlt))
      refine Wp.bind (P := few2) ?_ fun d hd => ?_
      · refine Wp.mIf (T := fun _ => True) (by unfold opB; exact (draw_wpH (many := 4) (by decide) (by decide)).bind fun _ _ => Wp.pure trivial) (fun _ => ?_) fun _ => Wp.pure (row_few (k := 100) (by decide) hrow)
        exact (bent_wp h0 (by omega) hp hrow).bind fun d hd => Wp.pure hd
      · obtain ⟨b, e1, e2⟩ := out_both hO hf h0 (by omega) (by omega) hp hd
        rw [e1, pure_bind, e2, pure_bind, flagH, decide_eq_true rfl, pure_bind, Bool.not_true, mIf_false]
        exact Wp.pure trivial
    · cases r with
      | inl z => trivial
      | inr y => exact hr
  exact (H [] rfl).imp fun b s h => h.2
end W
-- OrdOk.mem OrdOk.nodup OrdOk.ex OrdOk.last IsLast.eq IsLast.mem Crowd.nodup Crowd.bits hand_ok people_wpC order_wpH withS_wp book_wp office_eq OffOk draw_wpH rich_lots_wp masks_eq flower_in_eq flw_sub flw day_eq nextO next_ok l_next_eq mod_bit bit_eq few2 few2_A few2_L few2_T deep2_wp bent_wpH pickH_wp oneH_wp withB rows_of with_and crowd_eq l_crowd_eq lbits_eq bitsOf_eq l_letC_eq in_bits_eq lcrowd_eq crowdB_bits crowdB_crowd bits_crowdB one_shl bor_nat is_within_eq asc_crowd bits_congr mem_asc' deI_map deTI cutL_take cutL_length atI_nat atI_in Pu.wp crowd_few letL_mem letL_nodup lcM_map mAnd_pure2 few_T few_A LN nil_wp cons_wp consp_wp chkL_wp perm_len chk_bind nilN consN chkN catN cut_in crowd_few

namespace W
open PySem PySem.Spec PyProof.Rows L2 Dl
theorem all_mk {l : PySem.W.OpenLaw} {w : World} {K : PySem.W.Frag} {h : Heap} {mg : Str → Option Value} {fa : Addr} (X : K.In h) (G : h.Ns mainGlobals mg) (hfa : mg "law" = some (.ref fa))
    {t_MOST_LOTS : Tok}
    {t_MOST_PEOPLE : Tok}
    {C_Book : Addr}
    {C_Office : Addr}
    {f_l_hand : Addr}
    {od_l_hand an_l_hand : Option Addr}
    {sl_l_hand : Array (Option Value)}
    {oc_l_hand kV_l_hand dc_l_hand pm_l_hand cd_l_hand ct_l_hand : Value}
    {f_l_draw : Addr}
    {od_l_draw an_l_draw : Option Addr}
    {sl_l_draw : Array (Option Value)}
    {oc_l_draw kV_l_draw dc_l_draw pm_l_draw cd_l_draw ct_l_draw : Value}
    {f_l_least_lots : Addr}
    {od_l_least_lots an_l_least_lots : Option Addr}
    {sl_l_least_lots : Array (Option Value)}
    {oc_l_least_lots kV_l_least_lots dc_l_least_lots pm_l_least_lots cd_l_least_lots ct_l_least_lots : Value}
    {f_l_rich_lots : Addr}
    {od_l_rich_lots an_l_rich_lots : Option Addr}
    {sl_l_rich_lots : Array (Option Value)}
    {oc_l_rich_lots kV_l_rich_lots dc_l_rich_lots pm_l_rich_lots cd_l_rich_lots ct_l_rich_lots : Value}
    {f_l_order : Addr}
    {od_l_order an_l_order : Option Addr}
    {sl_l_order : Array (Option Value)}
    {oc_l_order kV_l_order dc_l_order pm_l_order cd_l_order ct_l_order : Value}
    {f_is_integer : Addr}
    {od_is_integer an_is_integer : Option Addr}
    {sl_is_integer : Array (Option Value)}
    {oc_is_integer kV_is_integer dc_is_integer pm_is_integer cd_is_integer ct_is_integer : Value}
    {f_is_within : Addr}
    {od_is_within an_is_within : Option Addr}
    {sl_is_within : Array (Option Value)}
    {oc_is_within kV_is_within dc_is_within pm_is_within cd_is_within ct_is_within : Value}
    {f_are_persons : Addr}
    {od_are_persons an_are_persons : Option Addr}
    {sl_are_persons : Array (Option Value)}
    {oc_are_persons kV_are_persons dc_are_persons pm_are_persons cd_are_persons ct_are_persons : Value}
    {f_is_row : Addr}
    {od_is_row an_is_row : Option Addr}
    {sl_is_row : Array (Option Value)}
    {oc_is_row kV_is_row dc_is_row pm_is_row cd_is_row ct_is_row : Value}
    {f_is_order : Addr}
    {od_is_order an_is_order : Option Addr}
    {sl_is_order : Array (Option Value)}
    {oc_is_order kV_is_order dc_is_order pm_is_order cd_is_order ct_is_order : Value}
    {f_lasts_in : Addr}
    {od_lasts_in an_lasts_in : Option Addr}
    {sl_lasts_in : Array (Option Value)}
    {oc_lasts_in kV_lasts_in dc_lasts_in pm_lasts_in cd_lasts_in ct_lasts_in : Value}
    {f_Office___init__ : Addr}
    {od_Office___init__ an_Office___init__ : Option Addr}
    {sl_Office___init__ : Array (Option Value)}
    {oc_Office___init__ kV_Office___init__ dc_Office___init__ pm_Office___init__ cd_Office___init__ ct_Office___init__ : Value}
    {f_are_ascending : Addr}
    {od_are_ascending an_are_ascending : Option Addr}
    {sl_are_ascending : Array (Option Value)}
    {oc_are_ascending kV_are_ascending dc_are_ascending pm_are_ascending cd_are_ascending ct_are_ascending : Value}
    {f_is_crowd : Addr}
    {od_is_crowd an_is_crowd : Option Addr}
    {sl_is_crowd : Array (Option Value)}
    {oc_is_crowd kV_is_crowd dc_is_crowd pm_is_crowd cd_is_crowd ct_is_crowd : Value}
    {f_is_lot : Addr}
    {od_is_lot an_is_lot : Option Addr}
    {sl_is_lot : Array (Option Value)}
    {oc_is_lot kV_is_lot dc_is_lot pm_is_lot cd_is_lot ct_is_lot : Value}
    {f_bits_of : Addr}
    {od_bits_of an_bits_of : Option Addr}
    {sl_bits_of : Array (Option Value)}
    {oc_bits_of kV_bits_of dc_bits_of pm_bits_of cd_bits_of ct_bits_of : Value}
    {f_holds : Addr}
    {od_holds an_holds : Option Addr}
    {sl_holds : Array (Option Value)}
    {oc_holds kV_holds dc_holds pm_holds cd_holds ct_holds : Value}
    {f_first_wrong_lot : Addr}
    {od_first_wrong_lot an_first_wrong_lot : Option Addr}
    {sl_first_wrong_lot : Array (Option Value)}
    {oc_first_wrong_lot kV_first_wrong_lot dc_first_wrong_lot pm_first_wrong_lot cd_first_wrong_lot ct_first_wrong_lot : Value}
    {f_Book_keep : Addr}
    {od_Book_keep an_Book_keep : Option Addr}
    {sl_Book_keep : Array (Option Value)}
    {oc_Book_keep kV_Book_keep dc_Book_keep pm_Book_keep cd_Book_keep ct_Book_keep : Value}
    {f_Book___init__ : Addr}
    {od_Book___init__ an_Book___init__ : Option Addr}
    {sl_Book___init__ : Array (Option Value)}
    {oc_Book___init__ kV_Book___init__ dc_Book___init__ pm_Book___init__ cd_Book___init__ ct_Book___init__ : Value}
    {f_l_bits : Addr}
    {od_l_bits an_l_bits : Option Addr}
    {sl_l_bits : Array (Option Value)}
    {oc_l_bits kV_l_bits dc_l_bits pm_l_bits cd_l_bits ct_l_bits : Value}
    {f_l_masks : Addr}
    {od_l_masks an_l_masks : Option Addr}
    {sl_l_masks : Array (Option Value)}
    {oc_l_masks kV_l_masks dc_l_masks pm_l_masks cd_l_masks ct_l_masks : Value}
    {f_check_person : Addr}
    {od_check_person an_check_person : Option Addr}
    {sl_check_person : Array (Option Value)}
    {oc_check_person kV_check_person dc_check_person pm_check_person cd_check_person ct_check_person : Value}
    {f_lots_through : Addr}
    {od_lots_through an_lots_through : Option Addr}
    {sl_lots_through : Array (Option Value)}
    {oc_lots_through kV_lots_through dc_lots_through pm_lots_through cd_lots_through ct_lots_through : Value}
    {f_most_apart : Addr}
    {od_most_apart an_most_apart : Option Addr}
    {sl_most_apart : Array (Option Value)}
    {oc_most_apart kV_most_apart dc_most_apart pm_most_apart cd_most_apart ct_most_apart : Value}
    {f_flower_in : Addr}
    {od_flower_in an_flower_in : Option Addr}
    {sl_flower_in : Array (Option Value)}
    {oc_flower_in kV_flower_in dc_flower_in pm_flower_in cd_flower_in ct_flower_in : Value}
    {f_ahead_of : Addr}
    {od_ahead_of an_ahead_of : Option Addr}
    {sl_ahead_of : Array (Option Value)}
    {oc_ahead_of kV_ahead_of dc_ahead_of pm_ahead_of cd_ahead_of ct_ahead_of : Value}
    {f_longest_out : Addr}
    {od_longest_out an_longest_out : Option Addr}
    {sl_longest_out : Array (Option Value)}
    {oc_longest_out kV_longest_out dc_longest_out pm_longest_out cd_longest_out ct_longest_out : Value}
    {f_l_let : Addr}
    {od_l_let an_l_let : Option Addr}
    {sl_l_let : Array (Option Value)}
    {oc_l_let kV_l_let dc_l_let pm_l_let cd_l_let ct_l_let : Value}
    {f_l_crowd : Addr}
    {od_l_crowd an_l_crowd : Option Addr}
    {sl_l_crowd : Array (Option Value)}
    {oc_l_crowd kV_l_crowd dc_l_crowd pm_l_crowd cd_l_crowd ct_l_crowd : Value}
    {f_l_next : Addr}
    {od_l_next an_l_next : Option Addr}
    {sl_l_next : Array (Option Value)}
    {oc_l_next kV_l_next dc_l_next pm_l_next cd_l_next ct_l_next : Value}
    {f_l_led : Addr}
    {od_l_led an_l_led : Option Addr}
    {sl_l_led : Array (Option Value)}
    {oc_l_led kV_l_led dc_l_led pm_l_led cd_l_led ct_l_led : Value}
    {f_l_odd : Addr}
    {od_l_odd an_l_odd : Option Addr}
    {sl_l_odd : Array (Option Value)}
    {oc_l_odd kV_l_odd dc_l_odd pm_l_odd cd_l_odd ct_l_odd : Value}
    {f_l_deep : Addr}
    {od_l_deep an_l_deep : Option Addr}
    {sl_l_deep : Array (Option Value)}
    {oc_l_deep kV_l_deep dc_l_deep pm_l_deep cd_l_deep ct_l_deep : Value}
    {f_l_crowd_bent : Addr}
    {od_l_crowd_bent an_l_crowd_bent : Option Addr}
    {sl_l_crowd_bent : Array (Option Value)}
    {oc_l_crowd_bent kV_l_crowd_bent dc_l_crowd_bent pm_l_crowd_bent cd_l_crowd_bent ct_l_crowd_bent : Value}
    {f_l_bent : Addr}
    {od_l_bent an_l_bent : Option Addr}
    {sl_l_bent : Array (Option Value)}
    {oc_l_bent kV_l_bent dc_l_bent pm_l_bent cd_l_bent ct_l_bent : Value}
    {f_l_flag : Addr}
    {od_l_flag an_l_flag : Option Addr}
    {sl_l_flag : Array (Option Value)}
    {oc_l_flag kV_l_flag dc_l_flag pm_l_flag cd_l_flag ct_l_flag : Value}
    {f_are_crowds_with : Addr}
    {od_are_crowds_with an_are_crowds_with : Option Addr}
    {sl_are_crowds_with : Array (Option Value)}
    {oc_are_crowds_with kV_are_crowds_with dc_are_crowds_with pm_are_crowds_with cd_are_crowds_with ct_are_crowds_with : Value}
    {f_is_barred : Addr}
    {od_is_barred an_is_barred : Option Addr}
    {sl_is_barred : Array (Option Value)}
    {oc_is_barred kV_is_barred dc_is_barred pm_is_barred cd_is_barred ct_is_barred : Value}
    {f_in_bits : Addr}
    {od_in_bits an_in_bits : Option Addr}
    {sl_in_bits : Array (Option Value)}
    {oc_in_bits kV_in_bits dc_in_bits pm_in_bits cd_in_bits ct_in_bits : Value}
    {f_moved_back : Addr}
    {od_moved_back an_moved_back : Option Addr}
    {sl_moved_back : Array (Option Value)}
    {oc_moved_back kV_moved_back dc_moved_back pm_moved_back cd_moved_back ct_moved_back : Value}
    {f_day_behind : Addr}
    {od_day_behind an_day_behind : Option Addr}
    {sl_day_behind : Array (Option Value)}
    {oc_day_behind kV_day_behind dc_day_behind pm_day_behind cd_day_behind ct_day_behind : Value}
    {f_is_out_through : Addr}
    {od_is_out_through an_is_out_through : Option Addr}
    {sl_is_out_through : Array (Option Value)}
    {oc_is_out_through kV_is_out_through dc_is_out_through pm_is_out_through cd_is_out_through ct_is_out_through : Value}
    {f_l_is_integer : Addr}
    {od_l_is_integer an_l_is_integer : Option Addr}
    {sl_l_is_integer : Array (Option Value)}
    {oc_l_is_integer kV_l_is_integer dc_l_is_integer pm_l_is_integer cd_l_is_integer ct_l_is_integer : Value}
    {f_l_is_crowd : Addr}
    {od_l_is_crowd an_l_is_crowd : Option Addr}
    {sl_l_is_crowd : Array (Option Value)}
    {oc_l_is_crowd kV_l_is_crowd dc_l_is_crowd pm_l_is_crowd cd_l_is_crowd ct_l_is_crowd : Value}
    {f_l_due : Addr}
    {od_l_due an_l_due : Option Addr}
    {sl_l_due : Array (Option Value)}
    {oc_l_due kV_l_due dc_l_due pm_l_due cd_l_due ct_l_due : Value}
    {f_law : Addr}
    {od_law an_law : Option Addr}
    {sl_law : Array (Option Value)}
    {oc_law kV_law dc_law pm_law cd_law ct_law : Value}
    (z_abs : PySem.W.nsIn K mainGlobals "abs" = some none)
    (z_all : PySem.W.nsIn K mainGlobals "all" = some none)
    (z_any : PySem.W.nsIn K mainGlobals "any" = some none)
    (z_bool : PySem.W.nsIn K mainGlobals "bool" = some none)
    (z_enumerate : PySem.W.nsIn K mainGlobals "enumerate" = some none)
    (z_int : PySem.W.nsIn K mainGlobals "int" = some none)
    (z_isinstance : PySem.W.nsIn K mainGlobals "isinstance" = some none)
    (z_len : PySem.W.nsIn K mainGlobals "len" = some none)
    (z_list : PySem.W.nsIn K mainGlobals "list" = some none)
    (z_max : PySem.W.nsIn K mainGlobals "max" = some none)
    (z_range : PySem.W.nsIn K mainGlobals "range" = some none)
    (z_set : PySem.W.nsIn K mainGlobals "set" = some none)
    (z_sorted : PySem.W.nsIn K mainGlobals "sorted" = some none)
    (z_sum : PySem.W.nsIn K mainGlobals "sum" = some none)
    (z_tuple : PySem.W.nsIn K mainGlobals "tuple" = some none)
    (y_MOST_LOTS : PySem.W.nsIn K mainGlobals "MOST_LOTS" = some (some (.int 60 t_MOST_LOTS)))
    (y_MOST_PEOPLE : PySem.W.nsIn K mainGlobals "MOST_PEOPLE" = some (some (.int 12 t_MOST_PEOPLE)))
    (aC_Book : PySem.W.nsIn K mainGlobals "Book" = some (some (.ref C_Book)))
    (pg_Book : PySem.W.plainGet K C_Book Str.empty = true)
    (hd_Book : PySem.W.hasDictIn K C_Book = true)
    (po_Book : PySem.W.plainOver K C_Book = true)
    (sa_Book : PySem.W.findIn K (.ref C_Book) "__setattr__" = some (some (.builtin "object.__setattr__")))
    (ha_Book : PySem.W.findIn K (.ref C_Book) "__class__" = some (some (.builtin "object.__class__")))
    (hm_Book : PySem.W.mroIn K C_Book (.type "object") = some true)
    (kint_Book : PySem.W.kitOne K (.ref C_Book) (.type "int") = some false)
    (kbool_Book : PySem.W.kitOne K (.ref C_Book) (.type "bool") = some false)
    (kstr_Book : PySem.W.kitOne K (.ref C_Book) (.type "str") = some false)
    (ktuple_Book : PySem.W.kitOne K (.ref C_Book) (.type "tuple") = some false)
    (klist_Book : PySem.W.kitOne K (.ref C_Book) (.type "list") = some false)
    (kdict_Book : PySem.W.kitOne K (.ref C_Book) (.type "dict") = some false)
    (na_Book_people : PySem.W.findIn K (.ref C_Book) "people" = some none)
    (na_Book_lots : PySem.W.findIn K (.ref C_Book) "lots" = some none)
    (na_Book_masks : PySem.W.findIn K (.ref C_Book) "masks" = some none)
    (mk_Book : PySem.W.makesIn K C_Book = true)
    (kc_Book : PySem.W.keepIn K (.ref C_Book) = true)
    (aC_Office : PySem.W.nsIn K mainGlobals "Office" = some (some (.ref C_Office)))
    (pg_Office : PySem.W.plainGet K C_Office Str.empty = true)
    (hd_Office : PySem.W.hasDictIn K C_Office = true)
    (po_Office : PySem.W.plainOver K C_Office = true)
    (sa_Office : PySem.W.findIn K (.ref C_Office) "__setattr__" = some (some (.builtin "object.__setattr__")))
    (ha_Office : PySem.W.findIn K (.ref C_Office) "__class__" = some (some (.builtin "object.__class__")))
    (hm_Office : PySem.W.mroIn K C_Office (.type "object") = some true)
    (kint_Office : PySem.W.kitOne K (.ref C_Office) (.type "int") = some false)
    (kbool_Office : PySem.W.kitOne K (.ref C_Office) (.type "bool") = some false)
    (kstr_Office : PySem.W.kitOne K (.ref C_Office) (.type "str") = some false)
    (ktuple_Office : PySem.W.kitOne K (.ref C_Office) (.type "tuple") = some false)
    (klist_Office : PySem.W.kitOne K (.ref C_Office) (.type "list") = some false)
    (kdict_Office : PySem.W.kitOne K (.ref C_Office) (.type "dict") = some false)
    (na_Office_book : PySem.W.findIn K (.ref C_Office) "book" = some none)
    (na_Office_order : PySem.W.findIn K (.ref C_Office) "order" = some none)
    (na_Office_kept_lasts : PySem.W.findIn K (.ref C_Office) "kept_lasts" = some none)
    (na_Office_bars : PySem.W.findIn K (.ref C_Office) "bars" = some none)
    (mk_Office : PySem.W.makesIn K C_Office = true)
    (kc_Office : PySem.W.keepIn K (.ref C_Office) = true)
    (kx_NoneType_Book : PySem.W.kitOne K (.type "NoneType") (.ref C_Book) = some false)
    (kx_int_Book : PySem.W.kitOne K (.type "int") (.ref C_Book) = some false)
    (kx_bool_Book : PySem.W.kitOne K (.type "bool") (.ref C_Book) = some false)
    (kx_str_Book : PySem.W.kitOne K (.type "str") (.ref C_Book) = some false)
    (kx_tuple_Book : PySem.W.kitOne K (.type "tuple") (.ref C_Book) = some false)
    (kx_list_Book : PySem.W.kitOne K (.type "list") (.ref C_Book) = some false)
    (kx_dict_Book : PySem.W.kitOne K (.type "dict") (.ref C_Book) = some false)
    (kx_Book_Book : PySem.W.kitOne K (.ref C_Book) (.ref C_Book) = some true)
    (kx_Office_Book : PySem.W.kitOne K (.ref C_Office) (.ref C_Book) = some false)
    (hn_ : PySem.W.specialIn K (.builtin "object.__class__") "__get__" = some (some (.builtin "getset_descriptor.__get__")))
    (ht_ : PySem.W.takesIn K (.builtin "object.__class__") = some true)
    (a_l_hand : PySem.W.nsIn K mainGlobals "_law_hand" = some (some (.ref f_l_hand)))
    (l_l_hand : K.lookup f_l_hand = some ⟨oc_l_hand, od_l_hand, .func (PySem.W.fnOf "_law_hand" "_law_hand" (defArgs s_l_hand) (defBody s_l_hand) (defScope s_l_hand) .none kV_l_hand dc_l_hand pm_l_hand an_l_hand cd_l_hand ct_l_hand), sl_l_hand⟩)
    (c_l_hand : PySem.W.codeIn K cd_l_hand "_law_hand" = true)
    (k_l_hand : PySem.W.keepIn K (.ref f_l_hand) = true)
    (a_l_draw : PySem.W.nsIn K mainGlobals "_law_draw" = some (some (.ref f_l_draw)))
    (l_l_draw : K.lookup f_l_draw = some ⟨oc_l_draw, od_l_draw, .func (PySem.W.fnOf "_law_draw" "_law_draw" (defArgs s_l_draw) (defBody s_l_draw) (defScope s_l_draw) .none kV_l_draw dc_l_draw pm_l_draw an_l_draw cd_l_draw ct_l_draw), sl_l_draw⟩)
    (c_l_draw : PySem.W.codeIn K cd_l_draw "_law_draw" = true)
    (k_l_draw : PySem.W.keepIn K (.ref f_l_draw) = true)
    (a_l_least_lots : PySem.W.nsIn K mainGlobals "_law_least_lots" = some (some (.ref f_l_least_lots)))
    (l_l_least_lots : K.lookup f_l_least_lots = some ⟨oc_l_least_lots, od_l_least_lots, .func (PySem.W.fnOf "_law_least_lots" "_law_least_lots" (defArgs s_l_least_lots) (defBody s_l_least_lots) (defScope s_l_least_lots) .none kV_l_least_lots dc_l_least_lots pm_l_least_lots an_l_least_lots cd_l_least_lots ct_l_least_lots), sl_l_least_lots⟩)
    (c_l_least_lots : PySem.W.codeIn K cd_l_least_lots "_law_least_lots" = true)
    (k_l_least_lots : PySem.W.keepIn K (.ref f_l_least_lots) = true)
    (a_l_rich_lots : PySem.W.nsIn K mainGlobals "_law_rich_lots" = some (some (.ref f_l_rich_lots)))
    (l_l_rich_lots : K.lookup f_l_rich_lots = some ⟨oc_l_rich_lots, od_l_rich_lots, .func (PySem.W.fnOf "_law_rich_lots" "_law_rich_lots" (defArgs s_l_rich_lots) (defBody s_l_rich_lots) (defScope s_l_rich_lots) .none kV_l_rich_lots dc_l_rich_lots pm_l_rich_lots an_l_rich_lots cd_l_rich_lots ct_l_rich_lots), sl_l_rich_lots⟩)
    (c_l_rich_lots : PySem.W.codeIn K cd_l_rich_lots "_law_rich_lots" = true)
    (k_l_rich_lots : PySem.W.keepIn K (.ref f_l_rich_lots) = true)
    (a_l_order : PySem.W.nsIn K mainGlobals "_law_order" = some (some (.ref f_l_order)))
    (l_l_order : K.lookup f_l_order = some ⟨oc_l_order, od_l_order, .func (PySem.W.fnOf "_law_order" "_law_order" (defArgs s_l_order) (defBody s_l_order) (defScope s_l_order) .none kV_l_order dc_l_order pm_l_order an_l_order cd_l_order ct_l_order), sl_l_order⟩)
    (c_l_order : PySem.W.codeIn K cd_l_order "_law_order" = true)
    (k_l_order : PySem.W.keepIn K (.ref f_l_order) = true)
    (a_is_integer : PySem.W.nsIn K mainGlobals "is_integer" = some (some (.ref f_is_integer)))
    (l_is_integer : K.lookup f_is_integer = some ⟨oc_is_integer, od_is_integer, .func (PySem.W.fnOf "is_integer" "is_integer" (defArgs s_is_integer) (defBody s_is_integer) (defScope s_is_integer) .none kV_is_integer dc_is_integer pm_is_integer an_is_integer cd_is_integer ct_is_integer), sl_is_integer⟩)
    (c_is_integer : PySem.W.codeIn K cd_is_integer "is_integer" = true)
    (k_is_integer : PySem.W.keepIn K (.ref f_is_integer) = true)
    (a_is_within : PySem.W.nsIn K mainGlobals "is_within" = some (some (.ref f_is_within)))
    (l_is_within : K.lookup f_is_within = some ⟨oc_is_within, od_is_within, .func (PySem.W.fnOf "is_within" "is_within" (defArgs s_is_within) (defBody s_is_within) (defScope s_is_within) .none kV_is_within dc_is_within pm_is_within an_is_within cd_is_within ct_is_within), sl_is_within⟩)
    (c_is_within : PySem.W.codeIn K cd_is_within "is_within" = true)
    (k_is_within : PySem.W.keepIn K (.ref f_is_within) = true)
    (a_are_persons : PySem.W.nsIn K mainGlobals "are_persons" = some (some (.ref f_are_persons)))
    (l_are_persons : K.lookup f_are_persons = some ⟨oc_are_persons, od_are_persons, .func (PySem.W.fnOf "are_persons" "are_persons" (defArgs s_are_persons) (defBody s_are_persons) (defScope s_are_persons) .none kV_are_persons dc_are_persons pm_are_persons an_are_persons cd_are_persons ct_are_persons), sl_are_persons⟩)
    (c_are_persons : PySem.W.codeIn K cd_are_persons "are_persons" = true)
    (k_are_persons : PySem.W.keepIn K (.ref f_are_persons) = true)
    (a_is_row : PySem.W.nsIn K mainGlobals "is_row" = some (some (.ref f_is_row)))
    (l_is_row : K.lookup f_is_row = some ⟨oc_is_row, od_is_row, .func (PySem.W.fnOf "is_row" "is_row" (defArgs s_is_row) (defBody s_is_row) (defScope s_is_row) .none kV_is_row dc_is_row pm_is_row an_is_row cd_is_row ct_is_row), sl_is_row⟩)
    (c_is_row : PySem.W.codeIn K cd_is_row "is_row" = true)
    (k_is_row : PySem.W.keepIn K (.ref f_is_row) = true)
    (a_is_order : PySem.W.nsIn K mainGlobals "is_order" = some (some (.ref f_is_order)))
    (l_is_order : K.lookup f_is_order = some ⟨oc_is_order, od_is_order, .func (PySem.W.fnOf "is_order" "is_order" (defArgs s_is_order) (defBody s_is_order) (defScope s_is_order) .none kV_is_order dc_is_order pm_is_order an_is_order cd_is_order ct_is_order), sl_is_order⟩)
    (c_is_order : PySem.W.codeIn K cd_is_order "is_order" = true)
    (k_is_order : PySem.W.keepIn K (.ref f_is_order) = true)
    (a_lasts_in : PySem.W.nsIn K mainGlobals "lasts_in" = some (some (.ref f_lasts_in)))
    (l_lasts_in : K.lookup f_lasts_in = some ⟨oc_lasts_in, od_lasts_in, .func (PySem.W.fnOf "lasts_in" "lasts_in" (defArgs s_lasts_in) (defBody s_lasts_in) (defScope s_lasts_in) .none kV_lasts_in dc_lasts_in pm_lasts_in an_lasts_in cd_lasts_in ct_lasts_in), sl_lasts_in⟩)
    (c_lasts_in : PySem.W.codeIn K cd_lasts_in "lasts_in" = true)
    (k_lasts_in : PySem.W.keepIn K (.ref f_lasts_in) = true)
    (a_Office___init__ : PySem.W.findIn K (.ref C_Office) "__init__" = some (some (.ref f_Office___init__)))
    (i_Office___init__ : PySem.W.isFn K (.ref f_Office___init__) = true)
    (l_Office___init__ : K.lookup f_Office___init__ = some ⟨oc_Office___init__, od_Office___init__, .func (PySem.W.fnOf "__init__" "Office.__init__" (defArgs s_Office___init__) (defBody s_Office___init__) (defScope s_Office___init__) .none kV_Office___init__ dc_Office___init__ pm_Office___init__ an_Office___init__ cd_Office___init__ ct_Office___init__), sl_Office___init__⟩)
    (c_Office___init__ : PySem.W.codeIn K cd_Office___init__ "Office.__init__" = true)
    (k_Office___init__ : PySem.W.keepIn K (.ref f_Office___init__) = true)
    (a_are_ascending : PySem.W.nsIn K mainGlobals "are_ascending" = some (some (.ref f_are_ascending)))
    (l_are_ascending : K.lookup f_are_ascending = some ⟨oc_are_ascending, od_are_ascending, .func (PySem.W.fnOf "are_ascending" "are_ascending" (defArgs s_are_ascending) (defBody s_are_ascending) (defScope s_are_ascending) .none kV_are_ascending dc_are_ascending pm_are_ascending an_are_ascending cd_are_ascending ct_are_ascending), sl_are_ascending⟩)
    (c_are_ascending : PySem.W.codeIn K cd_are_ascending "are_ascending" = true)
    (k_are_ascending : PySem.W.keepIn K (.ref f_are_ascending) = true)
    (a_is_crowd : PySem.W.nsIn K mainGlobals "is_crowd" = some (some (.ref f_is_crowd)))
    (l_is_crowd : K.lookup f_is_crowd = some ⟨oc_is_crowd, od_is_crowd, .func (PySem.W.fnOf "is_crowd" "is_crowd" (defArgs s_is_crowd) (defBody s_is_crowd) (defScope s_is_crowd) .none kV_is_crowd dc_is_crowd pm_is_crowd an_is_crowd cd_is_crowd ct_is_crowd), sl_is_crowd⟩)
    (c_is_crowd : PySem.W.codeIn K cd_is_crowd "is_crowd" = true)
    (k_is_crowd : PySem.W.keepIn K (.ref f_is_crowd) = true)
    (a_is_lot : PySem.W.nsIn K mainGlobals "is_lot" = some (some (.ref f_is_lot)))
    (l_is_lot : K.lookup f_is_lot = some ⟨oc_is_lot, od_is_lot, .func (PySem.W.fnOf "is_lot" "is_lot" (defArgs s_is_lot) (defBody s_is_lot) (defScope s_is_lot) .none kV_is_lot dc_is_lot pm_is_lot an_is_lot cd_is_lot ct_is_lot), sl_is_lot⟩)
    (c_is_lot : PySem.W.codeIn K cd_is_lot "is_lot" = true)
    (k_is_lot : PySem.W.keepIn K (.ref f_is_lot) = true)
    (a_bits_of : PySem.W.nsIn K mainGlobals "bits_of" = some (some (.ref f_bits_of)))
    (l_bits_of : K.lookup f_bits_of = some ⟨oc_bits_of, od_bits_of, .func (PySem.W.fnOf "bits_of" "bits_of" (defArgs s_bits_of) (defBody s_bits_of) (defScope s_bits_of) .none kV_bits_of dc_bits_of pm_bits_of an_bits_of cd_bits_of ct_bits_of), sl_bits_of⟩)
    (c_bits_of : PySem.W.codeIn K cd_bits_of "bits_of" = true)
    (k_bits_of : PySem.W.keepIn K (.ref f_bits_of) = true)
    (a_holds : PySem.W.nsIn K mainGlobals "holds" = some (some (.ref f_holds)))
    (l_holds : K.lookup f_holds = some ⟨oc_holds, od_holds, .func (PySem.W.fnOf "holds" "holds" (defArgs s_holds) (defBody s_holds) (defScope s_holds) .none kV_holds dc_holds pm_holds an_holds cd_holds ct_holds), sl_holds⟩)
    (c_holds : PySem.W.codeIn K cd_holds "holds" = true)
    (k_holds : PySem.W.keepIn K (.ref f_holds) = true)
    (a_first_wrong_lot : PySem.W.nsIn K mainGlobals "first_wrong_lot" = some (some (.ref f_first_wrong_lot)))
    (l_first_wrong_lot : K.lookup f_first_wrong_lot = some ⟨oc_first_wrong_lot, od_first_wrong_lot, .func (PySem.W.fnOf "first_wrong_lot" "first_wrong_lot" (defArgs s_first_wrong_lot) (defBody s_first_wrong_lot) (defScope s_first_wrong_lot) .none kV_first_wrong_lot dc_first_wrong_lot pm_first_wrong_lot an_first_wrong_lot cd_first_wrong_lot ct_first_wrong_lot), sl_first_wrong_lot⟩)
    (c_first_wrong_lot : PySem.W.codeIn K cd_first_wrong_lot "first_wrong_lot" = true)
    (k_first_wrong_lot : PySem.W.keepIn K (.ref f_first_wrong_lot) = true)
    (a_Book_keep : PySem.W.findIn K (.ref C_Book) "keep" = some (some (.ref f_Book_keep)))
    (i_Book_keep : PySem.W.isFn K (.ref f_Book_keep) = true)
    (l_Book_keep : K.lookup f_Book_keep = some ⟨oc_Book_keep, od_Book_keep, .func (PySem.W.fnOf "keep" "Book.keep" (defArgs s_Book_keep) (defBody s_Book_keep) (defScope s_Book_keep) .none kV_Book_keep dc_Book_keep pm_Book_keep an_Book_keep cd_Book_keep ct_Book_keep), sl_Book_keep⟩)
    (c_Book_keep : PySem.W.codeIn K cd_Book_keep "Book.keep" = true)
    (k_Book_keep : PySem.W.keepIn K (.ref f_Book_keep) = true)
    (a_Book___init__ : PySem.W.findIn K (.ref C_Book) "__init__" = some (some (.ref f_Book___init__)))
    (i_Book___init__ : PySem.W.isFn K (.ref f_Book___init__) = true)
    (l_Book___init__ : K.lookup f_Book___init__ = some ⟨oc_Book___init__, od_Book___init__, .func (PySem.W.fnOf "__init__" "Book.__init__" (defArgs s_Book___init__) (defBody s_Book___init__) (defScope s_Book___init__) .none kV_Book___init__ dc_Book___init__ pm_Book___init__ an_Book___init__ cd_Book___init__ ct_Book___init__), sl_Book___init__⟩)
    (c_Book___init__ : PySem.W.codeIn K cd_Book___init__ "Book.__init__" = true)
    (k_Book___init__ : PySem.W.keepIn K (.ref f_Book___init__) = true)
    (a_l_bits : PySem.W.nsIn K mainGlobals "_law_bits" = some (some (.ref f_l_bits)))
    (l_l_bits : K.lookup f_l_bits = some ⟨oc_l_bits, od_l_bits, .func (PySem.W.fnOf "_law_bits" "_law_bits" (defArgs s_l_bits) (defBody s_l_bits) (defScope s_l_bits) .none kV_l_bits dc_l_bits pm_l_bits an_l_bits cd_l_bits ct_l_bits), sl_l_bits⟩)
    (c_l_bits : PySem.W.codeIn K cd_l_bits "_law_bits" = true)
    (k_l_bits : PySem.W.keepIn K (.ref f_l_bits) = true)
    (a_l_masks : PySem.W.nsIn K mainGlobals "_law_masks" = some (some (.ref f_l_masks)))
    (l_l_masks : K.lookup f_l_masks = some ⟨oc_l_masks, od_l_masks, .func (PySem.W.fnOf "_law_masks" "_law_masks" (defArgs s_l_masks) (defBody s_l_masks) (defScope s_l_masks) .none kV_l_masks dc_l_masks pm_l_masks an_l_masks cd_l_masks ct_l_masks), sl_l_masks⟩)
    (c_l_masks : PySem.W.codeIn K cd_l_masks "_law_masks" = true)
    (k_l_masks : PySem.W.keepIn K (.ref f_l_masks) = true)
    (a_check_person : PySem.W.nsIn K mainGlobals "check_person" = some (some (.ref f_check_person)))
    (l_check_person : K.lookup f_check_person = some ⟨oc_check_person, od_check_person, .func (PySem.W.fnOf "check_person" "check_person" (defArgs s_check_person) (defBody s_check_person) (defScope s_check_person) .none kV_check_person dc_check_person pm_check_person an_check_person cd_check_person ct_check_person), sl_check_person⟩)
    (c_check_person : PySem.W.codeIn K cd_check_person "check_person" = true)
    (k_check_person : PySem.W.keepIn K (.ref f_check_person) = true)
    (a_lots_through : PySem.W.nsIn K mainGlobals "lots_through" = some (some (.ref f_lots_through)))
    (l_lots_through : K.lookup f_lots_through = some ⟨oc_lots_through, od_lots_through, .func (PySem.W.fnOf "lots_through" "lots_through" (defArgs s_lots_through) (defBody s_lots_through) (defScope s_lots_through) .none kV_lots_through dc_lots_through pm_lots_through an_lots_through cd_lots_through ct_lots_through), sl_lots_through⟩)
    (c_lots_through : PySem.W.codeIn K cd_lots_through "lots_through" = true)
    (k_lots_through : PySem.W.keepIn K (.ref f_lots_through) = true)
    (a_most_apart : PySem.W.nsIn K mainGlobals "most_apart" = some (some (.ref f_most_apart)))
    (l_most_apart : K.lookup f_most_apart = some ⟨oc_most_apart, od_most_apart, .func (PySem.W.fnOf "most_apart" "most_apart" (defArgs s_most_apart) (defBody s_most_apart) (defScope s_most_apart) .none kV_most_apart dc_most_apart pm_most_apart an_most_apart cd_most_apart ct_most_apart), sl_most_apart⟩)
    (c_most_apart : PySem.W.codeIn K cd_most_apart "most_apart" = true)
    (k_most_apart : PySem.W.keepIn K (.ref f_most_apart) = true)
    (a_flower_in : PySem.W.nsIn K mainGlobals "flower_in" = some (some (.ref f_flower_in)))
    (l_flower_in : K.lookup f_flower_in = some ⟨oc_flower_in, od_flower_in, .func (PySem.W.fnOf "flower_in" "flower_in" (defArgs s_flower_in) (defBody s_flower_in) (defScope s_flower_in) .none kV_flower_in dc_flower_in pm_flower_in an_flower_in cd_flower_in ct_flower_in), sl_flower_in⟩)
    (c_flower_in : PySem.W.codeIn K cd_flower_in "flower_in" = true)
    (k_flower_in : PySem.W.keepIn K (.ref f_flower_in) = true)
    (a_ahead_of : PySem.W.nsIn K mainGlobals "ahead_of" = some (some (.ref f_ahead_of)))
    (l_ahead_of : K.lookup f_ahead_of = some ⟨oc_ahead_of, od_ahead_of, .func (PySem.W.fnOf "ahead_of" "ahead_of" (defArgs s_ahead_of) (defBody s_ahead_of) (defScope s_ahead_of) .none kV_ahead_of dc_ahead_of pm_ahead_of an_ahead_of cd_ahead_of ct_ahead_of), sl_ahead_of⟩)
    (c_ahead_of : PySem.W.codeIn K cd_ahead_of "ahead_of" = true)
    (k_ahead_of : PySem.W.keepIn K (.ref f_ahead_of) = true)
    (a_longest_out : PySem.W.nsIn K mainGlobals "longest_out" = some (some (.ref f_longest_out)))
    (l_longest_out : K.lookup f_longest_out = some ⟨oc_longest_out, od_longest_out, .func (PySem.W.fnOf "longest_out" "longest_out" (defArgs s_longest_out) (defBody s_longest_out) (defScope s_longest_out) .none kV_longest_out dc_longest_out pm_longest_out an_longest_out cd_longest_out ct_longest_out), sl_longest_out⟩)
    (c_longest_out : PySem.W.codeIn K cd_longest_out "longest_out" = true)
    (k_longest_out : PySem.W.keepIn K (.ref f_longest_out) = true)
    (a_l_let : PySem.W.nsIn K mainGlobals "_law_let" = some (some (.ref f_l_let)))
    (l_l_let : K.lookup f_l_let = some ⟨oc_l_let, od_l_let, .func (PySem.W.fnOf "_law_let" "_law_let" (defArgs s_l_let) (defBody s_l_let) (defScope s_l_let) .none kV_l_let dc_l_let pm_l_let an_l_let cd_l_let ct_l_let), sl_l_let⟩)
    (c_l_let : PySem.W.codeIn K cd_l_let "_law_let" = true)
    (k_l_let : PySem.W.keepIn K (.ref f_l_let) = true)
    (a_l_crowd : PySem.W.nsIn K mainGlobals "_law_crowd" = some (some (.ref f_l_crowd)))
    (l_l_crowd : K.lookup f_l_crowd = some ⟨oc_l_crowd, od_l_crowd, .func (PySem.W.fnOf "_law_crowd" "_law_crowd" (defArgs s_l_crowd) (defBody s_l_crowd) (defScope s_l_crowd) .none kV_l_crowd dc_l_crowd pm_l_crowd an_l_crowd cd_l_crowd ct_l_crowd), sl_l_crowd⟩)
    (c_l_crowd : PySem.W.codeIn K cd_l_crowd "_law_crowd" = true)
    (k_l_crowd : PySem.W.keepIn K (.ref f_l_crowd) = true)
    (a_l_next : PySem.W.nsIn K mainGlobals "_law_next" = some (some (.ref f_l_next)))
    (l_l_next : K.lookup f_l_next = some ⟨oc_l_next, od_l_next, .func (PySem.W.fnOf "_law_next" "_law_next" (defArgs s_l_next) (defBody s_l_next) (defScope s_l_next) .none kV_l_next dc_l_next pm_l_next an_l_next cd_l_next ct_l_next), sl_l_next⟩)
    (c_l_next : PySem.W.codeIn K cd_l_next "_law_next" = true)
    (k_l_next : PySem.W.keepIn K (.ref f_l_next) = true)
    (a_l_led : PySem.W.nsIn K mainGlobals "_law_led" = some (some (.ref f_l_led)))
    (l_l_led : K.lookup f_l_led = some ⟨oc_l_led, od_l_led, .func (PySem.W.fnOf "_law_led" "_law_led" (defArgs s_l_led) (defBody s_l_led) (defScope s_l_led) .none kV_l_led dc_l_led pm_l_led an_l_led cd_l_led ct_l_led), sl_l_led⟩)
    (c_l_led : PySem.W.codeIn K cd_l_led "_law_led" = true)
    (k_l_led : PySem.W.keepIn K (.ref f_l_led) = true)
    (a_l_odd : PySem.W.nsIn K mainGlobals "_law_odd" = some (some (.ref f_l_odd)))
    (l_l_odd : K.lookup f_l_odd = some ⟨oc_l_odd, od_l_odd, .func (PySem.W.fnOf "_law_odd" "_law_odd" (defArgs s_l_odd) (defBody s_l_odd) (defScope s_l_odd) .none kV_l_odd dc_l_odd pm_l_odd an_l_odd cd_l_odd ct_l_odd), sl_l_odd⟩)
    (c_l_odd : PySem.W.codeIn K cd_l_odd "_law_odd" = true)
    (k_l_odd : PySem.W.keepIn K (.ref f_l_odd) = true)
    (a_l_deep : PySem.W.nsIn K mainGlobals "_law_deep" = some (some (.ref f_l_deep)))
    (l_l_deep : K.lookup f_l_deep = some ⟨oc_l_deep, od_l_deep, .func (PySem.W.fnOf "_law_deep" "_law_deep" (defArgs s_l_deep) (defBody s_l_deep) (defScope s_l_deep) .none kV_l_deep dc_l_deep pm_l_deep an_l_deep cd_l_deep ct_l_deep), sl_l_deep⟩)
    (c_l_deep : PySem.W.codeIn K cd_l_deep "_law_deep" = true)
    (k_l_deep : PySem.W.keepIn K (.ref f_l_deep) = true)
    (a_l_crowd_bent : PySem.W.nsIn K mainGlobals "_law_crowd_bent" = some (some (.ref f_l_crowd_bent)))
    (l_l_crowd_bent : K.lookup f_l_crowd_bent = some ⟨oc_l_crowd_bent, od_l_crowd_bent, .func (PySem.W.fnOf "_law_crowd_bent" "_law_crowd_bent" (defArgs s_l_crowd_bent) (defBody s_l_crowd_bent) (defScope s_l_crowd_bent) .none kV_l_crowd_bent dc_l_crowd_bent pm_l_crowd_bent an_l_crowd_bent cd_l_crowd_bent ct_l_crowd_bent), sl_l_crowd_bent⟩)
    (c_l_crowd_bent : PySem.W.codeIn K cd_l_crowd_bent "_law_crowd_bent" = true)
    (k_l_crowd_bent : PySem.W.keepIn K (.ref f_l_crowd_bent) = true)
    (a_l_bent : PySem.W.nsIn K mainGlobals "_law_bent" = some (some (.ref f_l_bent)))
    (l_l_bent : K.lookup f_l_bent = some ⟨oc_l_bent, od_l_bent, .func (PySem.W.fnOf "_law_bent" "_law_bent" (defArgs s_l_bent) (defBody s_l_bent) (defScope s_l_bent) .none kV_l_bent dc_l_bent pm_l_bent an_l_bent cd_l_bent ct_l_bent), sl_l_bent⟩)
    (c_l_bent : PySem.W.codeIn K cd_l_bent "_law_bent" = true)
    (k_l_bent : PySem.W.keepIn K (.ref f_l_bent) = true)
    (a_l_flag : PySem.W.nsIn K mainGlobals "_law_flag" = some (some (.ref f_l_flag)))
    (l_l_flag : K.lookup f_l_flag = some ⟨oc_l_flag, od_l_flag, .func (PySem.W.fnOf "_law_flag" "_law_flag" (defArgs s_l_flag) (defBody s_l_flag) (defScope s_l_flag) .none kV_l_flag dc_l_flag pm_l_flag an_l_flag cd_l_flag ct_l_flag), sl_l_flag⟩)
    (c_l_flag : PySem.W.codeIn K cd_l_flag "_law_flag" = true)
    (k_l_flag : PySem.W.keepIn K (.ref f_l_flag) = true)
    (a_are_crowds_with : PySem.W.nsIn K mainGlobals "are_crowds_with" = some (some (.ref f_are_crowds_with)))
    (l_are_crowds_with : K.lookup f_are_crowds_with = some ⟨oc_are_crowds_with, od_are_crowds_with, .func (PySem.W.fnOf "are_crowds_with" "are_crowds_with" (defArgs s_are_crowds_with) (defBody s_are_crowds_with) (defScope s_are_crowds_with) .none kV_are_crowds_with dc_are_crowds_with pm_are_crowds_with an_are_crowds_with cd_are_crowds_with ct_are_crowds_with), sl_are_crowds_with⟩)
    (c_are_crowds_with : PySem.W.codeIn K cd_are_crowds_with "are_crowds_with" = true)
    (k_are_crowds_with : PySem.W.keepIn K (.ref f_are_crowds_with) = true)
    (a_is_barred : PySem.W.nsIn K mainGlobals "is_barred" = some (some (.ref f_is_barred)))
    (l_is_barred : K.lookup f_is_barred = some ⟨oc_is_barred, od_is_barred, .func (PySem.W.fnOf "is_barred" "is_barred" (defArgs s_is_barred) (defBody s_is_barred) (defScope s_is_barred) .none kV_is_barred dc_is_barred pm_is_barred an_is_barred cd_is_barred ct_is_barred), sl_is_barred⟩)
    (c_is_barred : PySem.W.codeIn K cd_is_barred "is_barred" = true)
    (k_is_barred : PySem.W.keepIn K (.ref f_is_barred) = true)
    (a_in_bits : PySem.W.nsIn K mainGlobals "in_bits" = some (some (.ref f_in_bits)))
    (l_in_bits : K.lookup f_in_bits = some ⟨oc_in_bits, od_in_bits, .func (PySem.W.fnOf "in_bits" "in_bits" (defArgs s_in_bits) (defBody s_in_bits) (defScope s_in_bits) .none kV_in_bits dc_in_bits pm_in_bits an_in_bits cd_in_bits ct_in_bits), sl_in_bits⟩)
    (c_in_bits : PySem.W.codeIn K cd_in_bits "in_bits" = true)
    (k_in_bits : PySem.W.keepIn K (.ref f_in_bits) = true)
    (a_moved_back : PySem.W.nsIn K mainGlobals "moved_back" = some (some (.ref f_moved_back)))
    (l_moved_back : K.lookup f_moved_back = some ⟨oc_moved_back, od_moved_back, .func (PySem.W.fnOf "moved_back" "moved_back" (defArgs s_moved_back) (defBody s_moved_back) (defScope s_moved_back) .none kV_moved_back dc_moved_back pm_moved_back an_moved_back cd_moved_back ct_moved_back), sl_moved_back⟩)
    (c_moved_back : PySem.W.codeIn K cd_moved_back "moved_back" = true)
    (k_moved_back : PySem.W.keepIn K (.ref f_moved_back) = true)
    (a_day_behind : PySem.W.nsIn K mainGlobals "day_behind" = some (some (.ref f_day_behind)))
    (l_day_behind : K.lookup f_day_behind = some ⟨oc_day_behind, od_day_behind, .func (PySem.W.fnOf "day_behind" "day_behind" (defArgs s_day_behind) (defBody s_day_behind) (defScope s_day_behind) .none kV_day_behind dc_day_behind pm_day_behind an_day_behind cd_day_behind ct_day_behind), sl_day_behind⟩)
    (c_day_behind : PySem.W.codeIn K cd_day_behind "day_behind" = true)
    (k_day_behind : PySem.W.keepIn K (.ref f_day_behind) = true)
    (a_is_out_through : PySem.W.nsIn K mainGlobals "is_out_through" = some (some (.ref f_is_out_through)))
    (l_is_out_through : K.lookup f_is_out_through = some ⟨oc_is_out_through, od_is_out_through, .func (PySem.W.fnOf "is_out_through" "is_out_through" (defArgs s_is_out_through) (defBody s_is_out_through) (defScope s_is_out_through) .none kV_is_out_through dc_is_out_through pm_is_out_through an_is_out_through cd_is_out_through ct_is_out_through), sl_is_out_through⟩)
    (c_is_out_through : PySem.W.codeIn K cd_is_out_through "is_out_through" = true)
    (k_is_out_through : PySem.W.keepIn K (.ref f_is_out_through) = true)
    (a_l_is_integer : PySem.W.nsIn K mainGlobals "_law_is_integer" = some (some (.ref f_l_is_integer)))
    (l_l_is_integer : K.lookup f_l_is_integer = some ⟨oc_l_is_integer, od_l_is_integer, .func (PySem.W.fnOf "_law_is_integer" "_law_is_integer" (defArgs s_l_is_integer) (defBody s_l_is_integer) (defScope s_l_is_integer) .none kV_l_is_integer dc_l_is_integer pm_l_is_integer an_l_is_integer cd_l_is_integer ct_l_is_integer), sl_l_is_integer⟩)
    (c_l_is_integer : PySem.W.codeIn K cd_l_is_integer "_law_is_integer" = true)
    (k_l_is_integer : PySem.W.keepIn K (.ref f_l_is_integer) = true)
    (a_l_is_crowd : PySem.W.nsIn K mainGlobals "_law_is_crowd" = some (some (.ref f_l_is_crowd)))
    (l_l_is_crowd : K.lookup f_l_is_crowd = some ⟨oc_l_is_crowd, od_l_is_crowd, .func (PySem.W.fnOf "_law_is_crowd" "_law_is_crowd" (defArgs s_l_is_crowd) (defBody s_l_is_crowd) (defScope s_l_is_crowd) .none kV_l_is_crowd dc_l_is_crowd pm_l_is_crowd an_l_is_crowd cd_l_is_crowd ct_l_is_crowd), sl_l_is_crowd⟩)
    (c_l_is_crowd : PySem.W.codeIn K cd_l_is_crowd "_law_is_crowd" = true)
    (k_l_is_crowd : PySem.W.keepIn K (.ref f_l_is_crowd) = true)
    (a_l_due : PySem.W.nsIn K mainGlobals "_law_due" = some (some (.ref f_l_due)))
    (l_l_due : K.lookup f_l_due = some ⟨oc_l_due, od_l_due, .func (PySem.W.fnOf "_law_due" "_law_due" (defArgs s_l_due) (defBody s_l_due) (defScope s_l_due) .none kV_l_due dc_l_due pm_l_due an_l_due cd_l_due ct_l_due), sl_l_due⟩)
    (c_l_due : PySem.W.codeIn K cd_l_due "_law_due" = true)
    (k_l_due : PySem.W.keepIn K (.ref f_l_due) = true)
    (a_law : PySem.W.nsIn K mainGlobals "law" = some (some (.ref f_law)))
    (l_law : K.lookup f_law = some ⟨oc_law, od_law, .func (PySem.W.fnOf "law" "law" (defArgs s_law) (defBody s_law) (defScope s_law) .none kV_law dc_law pm_law an_law cd_law ct_law), sl_law⟩)
    (c_law : PySem.W.codeIn K cd_law "law" = true)
    (k_law : PySem.W.keepIn K (.ref f_law) = true)
    (hlaw : ∀ ns : List Int, ns.length ≤ 63 → Okk (m_law ns []) fun b _ => b = true) :
    ∃ fd : FuncData, (∀ (s : Shared) (v : Value), BindsTo s fd ⟨[v], []⟩ [("_law_script", v)]) ∧ ∀ base : Heap, K.In base → base.Ns mainGlobals mg → FnOk l.prog w K mg base CX0 66 fa fd ["_law_script"] (spLaw K []) := by
  have e := hfa.symm.trans (PySem.W.mg_of X G a_law)
  cases e
  refine ⟨PySem.W.fnOf "law" "law" (defArgs s_law) (defBody s_law) (defScope s_law) .none kV_law dc_law pm_law an_law cd_law ct_law, fun s v => .of_eq rfl, fun base _ _ => ?_⟩
  let cm : Str → Option Addr := fun n => if n = "Book" then some C_Book else if n = "Office" then some C_Office else none
  have cm_Book : cm "Book" = some C_Book := by show (if _ then _ else _) = _; rw [if_pos rfl]
  have cm_Office : cm "Office" = some C_Office := by show (if _ then _ else _) = _; rw [if_neg (by decide +kernel)]; rw [if_pos rfl]
  have hcls : ∀ n C, cm n = some C → ClsOk K C := fun n C e => by
    simp only [cm] at e
    split at e
    · cases e
      exact ⟨⟨pg_Book, hd_Book, po_Book, sa_Book⟩, ha_Book, hn_, ht_, hm_Book, kint_Book, kbool_Book, kstr_Book, ktuple_Book, klist_Book, kdict_Book⟩
    split at e
    · cases e
      exact ⟨⟨pg_Office, hd_Office, po_Office, sa_Office⟩, ha_Office, hn_, ht_, hm_Office, kint_Office, kbool_Office, kstr_Office, ktuple_Office, klist_Office, kdict_Office⟩
    cases e
  have isc_Book : IsC ⟨l.prog, w, ⟨K, cm, []⟩, mg, base, hcls⟩ C_Book sub_Book := by
    refine ⟨fun a ha => ?_, fun n C e => ?_⟩
    · rcases List.mem_cons.mp ha with q | ha
      · rw [q]; exact kx_NoneType_Book
      rcases List.mem_cons.mp ha with q | ha
      · rw [q]; exact kx_int_Book
      rcases List.mem_cons.mp ha with q | ha
      · rw [q]; exact kx_bool_Book
      rcases List.mem_cons.mp ha with q | ha
      · rw [q]; exact kx_str_Book
      rcases List.mem_cons.mp ha with q | ha
      · rw [q]; exact kx_tuple_Book
      rcases List.mem_cons.mp ha with q | ha
      · rw [q]; exact kx_list_Book
      rcases List.mem_cons.mp ha with q | ha
      · rw [q]; exact kx_dict_Book
      cases ha
    · simp only [cm] at e
      split at e
      · rename_i q; cases e; rw [q]; exact kx_Book_Book
      split at e
      · rename_i q; cases e; rw [q]; exact kx_Office_Book
      cases e
  have T : HF ⟨l.prog, w, ⟨K, cm, []⟩, mg, base, hcls⟩ C_Book C_Office := ⟨PySem.W.mg_none_of X G z_abs, PySem.W.mg_none_of X G z_all, PySem.W.mg_none_of X G z_any, PySem.W.mg_none_of X G z_bool, PySem.W.mg_none_of X G z_enumerate, PySem.W.mg_none_of X G z_int, PySem.W.mg_none_of X G z_isinstance, PySem.W.mg_none_of X G z_len, PySem.W.mg_none_of X G z_list, PySem.W.mg_none_of X G z_max, PySem.W.mg_none_of X G z_range, PySem.W.mg_none_of X G z_set, PySem.W.mg_none_of X G z_sorted, PySem.W.mg_none_of X G z_sum, PySem.W.mg_none_of X G z_tuple, ⟨t_MOST_LOTS, PySem.W.mg_of X G y_MOST_LOTS⟩, ⟨t_MOST_PEOPLE, PySem.W.mg_of X G y_MOST_PEOPLE⟩, cm_Book, (PySem.W.mg_of X G aC_Book), na_Book_people, na_Book_lots, na_Book_masks, cm_Office, (PySem.W.mg_of X G aC_Office), na_Office_book, na_Office_order, na_Office_kept_lasts, na_Office_bars, isc_Book, ⟨f_l_hand, _, fun_mk (st := s_l_hand) l_l_hand c_l_hand k_l_hand, PySem.W.mg_of X G a_l_hand, (fun_mk (st := s_l_hand) l_l_hand c_l_hand k_l_hand).binds fun _ _ _ _ _ _ us hl => match us, hl with | [_], _ => rfl⟩, ⟨f_l_draw, _, fun_mk (st := s_l_draw) l_l_draw c_l_draw k_l_draw, PySem.W.mg_of X G a_l_draw, (fun_mk (st := s_l_draw) l_l_draw c_l_draw k_l_draw).binds fun _ _ _ _ _ _ us hl => match us, hl with | [_, _], _ => rfl⟩, ⟨f_l_least_lots, _, fun_mk (st := s_l_least_lots) l_l_least_lots c_l_least_lots k_l_least_lots, PySem.W.mg_of X G a_l_least_lots, (fun_mk (st := s_l_least_lots) l_l_least_lots c_l_least_lots k_l_least_lots).binds fun _ _ _ _ _ _ us hl => match us, hl with | [_], _ => rfl⟩, ⟨f_l_rich_lots, _, fun_mk (st := s_l_rich_lots) l_l_rich_lots c_l_rich_lots k_l_rich_lots, PySem.W.mg_of X G a_l_rich_lots, (fun_mk (st := s_l_rich_lots) l_l_rich_lots c_l_rich_lots k_l_rich_lots).binds fun _ _ _ _ _ _ us hl => match us, hl with | [_, _], _ => rfl⟩, ⟨f_l_order, _, fun_mk (st := s_l_order) l_l_order c_l_order k_l_order, PySem.W.mg_of X G a_l_order, (fun_mk (st := s_l_order) l_l_order c_l_order k_l_order).binds fun _ _ _ _ _ _ us hl => match us, hl with | [_, _], _ => rfl⟩, ⟨f_is_integer, _, fun_mk (st := s_is_integer) l_is_integer c_is_integer k_is_integer, PySem.W.mg_of X G a_is_integer, (fun_mk (st := s_is_integer) l_is_integer c_is_integer k_is_integer).binds fun _ _ _ _ _ _ us hl => match us, hl with | [_], _ => rfl⟩, ⟨f_is_within, _, fun_mk (st := s_is_within) l_is_within c_is_within k_is_within, PySem.W.mg_of X G a_is_within, (fun_mk (st := s_is_within) l_is_within c_is_within k_is_within).binds fun _ _ _ _ _ _ us hl => match us, hl with | [_, _, _], _ => rfl⟩, ⟨f_are_persons, _, fun_mk (st := s_are_persons) l_are_persons c_are_persons k_are_persons, PySem.W.mg_of X G a_are_persons, (fun_mk (st := s_are_persons) l_are_persons c_are_persons k_are_persons).binds fun _ _ _ _ _ _ us hl => match us, hl with | [_, _], _ => rfl⟩, ⟨f_is_row, _, fun_mk (st := s_is_row) l_is_row c_is_row k_is_row, PySem.W.mg_of X G a_is_row, (fun_mk (st := s_is_row) l_is_row c_is_row k_is_row).binds fun _ _ _ _ _ _ us hl => match us, hl with | [_, _], _ => rfl⟩, ⟨f_is_order, _, fun_mk (st := s_is_order) l_is_order c_is_order k_is_order, PySem.W.mg_of X G a_is_order, (fun_mk (st := s_is_order) l_is_order c_is_order k_is_order).binds fun _ _ _ _ _ _ us hl => match us, hl with | [_, _], _ => rfl⟩, ⟨f_lasts_in, _, fun_mk (st := s_lasts_in) l_lasts_in c_lasts_in k_lasts_in, PySem.W.mg_of X G a_lasts_in, (fun_mk (st := s_lasts_in) l_lasts_in c_lasts_in k_lasts_in).binds fun _ _ _ _ _ _ us hl => match us, hl with | [_, _], _ => rfl⟩, ⟨f_Office___init__, _, ⟨mk_Office, a_Office___init__, i_Office___init__, kc_Office⟩, PySem.W.mg_of X G aC_Office, fun_mk (st := s_Office___init__) l_Office___init__ c_Office___init__ k_Office___init__, (fun_mk (st := s_Office___init__) l_Office___init__ c_Office___init__ k_Office___init__).binds fun _ _ _ _ _ _ us hl => match us, hl with | [_, _, _], _ => rfl⟩, ⟨f_are_ascending, _, fun_mk (st := s_are_ascending) l_are_ascending c_are_ascending k_are_ascending, PySem.W.mg_of X G a_are_ascending, (fun_mk (st := s_are_ascending) l_are_ascending c_are_ascending k_are_ascending).binds fun _ _ _ _ _ _ us hl => match us, hl with | [_], _ => rfl⟩, ⟨f_is_crowd, _, fun_mk (st := s_is_crowd) l_is_crowd c_is_crowd k_is_crowd, PySem.W.mg_of X G a_is_crowd, (fun_mk (st := s_is_crowd) l_is_crowd c_is_crowd k_is_crowd).binds fun _ _ _ _ _ _ us hl => match us, hl with | [_, _], _ => rfl⟩, ⟨f_is_lot, _, fun_mk (st := s_is_lot) l_is_lot c_is_lot k_is_lot, PySem.W.mg_of X G a_is_lot, (fun_mk (st := s_is_lot) l_is_lot c_is_lot k_is_lot).binds fun _ _ _ _ _ _ us hl => match us, hl with | [_, _], _ => rfl⟩, ⟨f_bits_of, _, fun_mk (st := s_bits_of) l_bits_of c_bits_of k_bits_of, PySem.W.mg_of X G a_bits_of, (fun_mk (st := s_bits_of) l_bits_of c_bits_of k_bits_of).binds fun _ _ _ _ _ _ us hl => match us, hl with | [_], _ => rfl⟩, ⟨f_holds, _, fun_mk (st := s_holds) l_holds c_holds k_holds, PySem.W.mg_of X G a_holds, (fun_mk (st := s_holds) l_holds c_holds k_holds).binds fun _ _ _ _ _ _ us hl => match us, hl with | [_, _], _ => rfl⟩, ⟨f_first_wrong_lot, _, fun_mk (st := s_first_wrong_lot) l_first_wrong_lot c_first_wrong_lot k_first_wrong_lot, PySem.W.mg_of X G a_first_wrong_lot, (fun_mk (st := s_first_wrong_lot) l_first_wrong_lot c_first_wrong_lot k_first_wrong_lot).binds fun _ _ _ _ _ _ us hl => match us, hl with | [_, _], _ => rfl⟩, ⟨f_Book_keep, _, ⟨a_Book_keep, i_Book_keep, k_Book_keep⟩, fun_mk (st := s_Book_keep) l_Book_keep c_Book_keep k_Book_keep, (fun_mk (st := s_Book_keep) l_Book_keep c_Book_keep k_Book_keep).binds fun _ _ _ _ _ _ us hl => match us, hl with | [_, _, _], _ => rfl⟩, ⟨f_Book___init__, _, ⟨mk_Book, a_Book___init__, i_Book___init__, kc_Book⟩, PySem.W.mg_of X G aC_Book, fun_mk (st := s_Book___init__) l_Book___init__ c_Book___init__ k_Book___init__, (fun_mk (st := s_Book___init__) l_Book___init__ c_Book___init__ k_Book___init__).binds fun _ _ _ _ _ _ us hl => match us, hl with | [_, _, _], _ => rfl⟩, ⟨f_l_bits, _, fun_mk (st := s_l_bits) l_l_bits c_l_bits k_l_bits, PySem.W.mg_of X G a_l_bits, (fun_mk (st := s_l_bits) l_l_bits c_l_bits k_l_bits).binds fun _ _ _ _ _ _ us hl => match us, hl with | [_], _ => rfl⟩, ⟨f_l_masks, _, fun_mk (st := s_l_masks) l_l_masks c_l_masks k_l_masks, PySem.W.mg_of X G a_l_masks, (fun_mk (st := s_l_masks) l_l_masks c_l_masks k_l_masks).binds fun _ _ _ _ _ _ us hl => match us, hl with | [_], _ => rfl⟩, ⟨f_check_person, _, fun_mk (st := s_check_person) l_check_person c_check_person k_check_person, PySem.W.mg_of X G a_check_person, (fun_mk (st := s_check_person) l_check_person c_check_person k_check_person).binds fun _ _ _ _ _ _ us hl => match us, hl with | [_, _], _ => rfl⟩, ⟨f_lots_through, _, fun_mk (st := s_lots_through) l_lots_through c_lots_through k_lots_through, PySem.W.mg_of X G a_lots_through, (fun_mk (st := s_lots_through) l_lots_through c_lots_through k_lots_through).binds fun _ _ _ _ _ _ us hl => match us, hl with | [_, _, _], _ => rfl⟩, ⟨f_most_apart, _, fun_mk (st := s_most_apart) l_most_apart c_most_apart k_most_apart, PySem.W.mg_of X G a_most_apart, (fun_mk (st := s_most_apart) l_most_apart c_most_apart k_most_apart).binds fun _ _ _ _ _ _ us hl => match us, hl with | [_, _, _, _], _ => rfl⟩, ⟨f_flower_in, _, fun_mk (st := s_flower_in) l_flower_in c_flower_in k_flower_in, PySem.W.mg_of X G a_flower_in, (fun_mk (st := s_flower_in) l_flower_in c_flower_in k_flower_in).binds fun _ _ _ _ _ _ us hl => match us, hl with | [_, _, _], _ => rfl⟩, ⟨f_ahead_of, _, fun_mk (st := s_ahead_of) l_ahead_of c_ahead_of k_ahead_of, PySem.W.mg_of X G a_ahead_of, (fun_mk (st := s_ahead_of) l_ahead_of c_ahead_of k_ahead_of).binds fun _ _ _ _ _ _ us hl => match us, hl with | [_, _], _ => rfl⟩, ⟨f_longest_out, _, fun_mk (st := s_longest_out) l_longest_out c_longest_out k_longest_out, PySem.W.mg_of X G a_longest_out, (fun_mk (st := s_longest_out) l_longest_out c_longest_out k_longest_out).binds fun _ _ _ _ _ _ us hl => match us, hl with | [_, _], _ => rfl⟩, ⟨f_l_let, _, fun_mk (st := s_l_let) l_l_let c_l_let k_l_let, PySem.W.mg_of X G a_l_let, (fun_mk (st := s_l_let) l_l_let c_l_let k_l_let).binds fun _ _ _ _ _ _ us hl => match us, hl with | [_, _, _], _ => rfl⟩, ⟨f_l_crowd, _, fun_mk (st := s_l_crowd) l_l_crowd c_l_crowd k_l_crowd, PySem.W.mg_of X G a_l_crowd, (fun_mk (st := s_l_crowd) l_l_crowd c_l_crowd k_l_crowd).binds fun _ _ _ _ _ _ us hl => match us, hl with | [_], _ => rfl⟩, ⟨f_l_next, _, fun_mk (st := s_l_next) l_l_next c_l_next k_l_next, PySem.W.mg_of X G a_l_next, (fun_mk (st := s_l_next) l_l_next c_l_next k_l_next).binds fun _ _ _ _ _ _ us hl => match us, hl with | [_, _, _], _ => rfl⟩, ⟨f_l_led, _, fun_mk (st := s_l_led) l_l_led c_l_led k_l_led, PySem.W.mg_of X G a_l_led, (fun_mk (st := s_l_led) l_l_led c_l_led k_l_led).binds fun _ _ _ _ _ _ us hl => match us, hl with | [_, _, _, _, _], _ => rfl⟩, ⟨f_l_odd, _, fun_mk (st := s_l_odd) l_l_odd c_l_odd k_l_odd, PySem.W.mg_of X G a_l_odd, (fun_mk (st := s_l_odd) l_l_odd c_l_odd k_l_odd).binds fun _ _ _ _ _ _ us hl => match us, hl with | [_, _], _ => rfl⟩, ⟨f_l_deep, _, fun_mk (st := s_l_deep) l_l_deep c_l_deep k_l_deep, PySem.W.mg_of X G a_l_deep, (fun_mk (st := s_l_deep) l_l_deep c_l_deep k_l_deep).binds fun _ _ _ _ _ _ us hl => match us, hl with | [_], _ => rfl⟩, ⟨f_l_crowd_bent, _, fun_mk (st := s_l_crowd_bent) l_l_crowd_bent c_l_crowd_bent k_l_crowd_bent, PySem.W.mg_of X G a_l_crowd_bent, (fun_mk (st := s_l_crowd_bent) l_l_crowd_bent c_l_crowd_bent k_l_crowd_bent).binds fun _ _ _ _ _ _ us hl => match us, hl with | [_, _, _], _ => rfl⟩, ⟨f_l_bent, _, fun_mk (st := s_l_bent) l_l_bent c_l_bent k_l_bent, PySem.W.mg_of X G a_l_bent, (fun_mk (st := s_l_bent) l_l_bent c_l_bent k_l_bent).binds fun _ _ _ _ _ _ us hl => match us, hl with | [_, _, _, _], _ => rfl⟩, ⟨f_l_flag, _, fun_mk (st := s_l_flag) l_l_flag c_l_flag k_l_flag, PySem.W.mg_of X G a_l_flag, (fun_mk (st := s_l_flag) l_l_flag c_l_flag k_l_flag).binds fun _ _ _ _ _ _ us hl => match us, hl with | [_, _], _ => rfl⟩, ⟨f_are_crowds_with, _, fun_mk (st := s_are_crowds_with) l_are_crowds_with c_are_crowds_with k_are_crowds_with, PySem.W.mg_of X G a_are_crowds_with, (fun_mk (st := s_are_crowds_with) l_are_crowds_with c_are_crowds_with k_are_crowds_with).binds fun _ _ _ _ _ _ us hl => match us, hl with | [_, _, _], _ => rfl⟩, ⟨f_is_barred, _, fun_mk (st := s_is_barred) l_is_barred c_is_barred k_is_barred, PySem.W.mg_of X G a_is_barred, (fun_mk (st := s_is_barred) l_is_barred c_is_barred k_is_barred).binds fun _ _ _ _ _ _ us hl => match us, hl with | [_, _, _], _ => rfl⟩, ⟨f_in_bits, _, fun_mk (st := s_in_bits) l_in_bits c_in_bits k_in_bits, PySem.W.mg_of X G a_in_bits, (fun_mk (st := s_in_bits) l_in_bits c_in_bits k_in_bits).binds fun _ _ _ _ _ _ us hl => match us, hl with | [_, _], _ => rfl⟩, ⟨f_moved_back, _, fun_mk (st := s_moved_back) l_moved_back c_moved_back k_moved_back, PySem.W.mg_of X G a_moved_back, (fun_mk (st := s_moved_back) l_moved_back c_moved_back k_moved_back).binds fun _ _ _ _ _ _ us hl => match us, hl with | [_, _], _ => rfl⟩, ⟨f_day_behind, _, fun_mk (st := s_day_behind) l_day_behind c_day_behind k_day_behind, PySem.W.mg_of X G a_day_behind, (fun_mk (st := s_day_behind) l_day_behind c_day_behind k_day_behind).binds fun _ _ _ _ _ _ us hl => match us, hl with | [_, _], _ => rfl⟩, ⟨f_is_out_through, _, fun_mk (st := s_is_out_through) l_is_out_through c_is_out_through k_is_out_through, PySem.W.mg_of X G a_is_out_through, (fun_mk (st := s_is_out_through) l_is_out_through c_is_out_through k_is_out_through).binds fun _ _ _ _ _ _ us hl => match us, hl with | [_, _, _], _ => rfl⟩, ⟨f_l_is_integer, _, fun_mk (st := s_l_is_integer) l_l_is_integer c_l_is_integer k_l_is_integer, PySem.W.mg_of X G a_l_is_integer, (fun_mk (st := s_l_is_integer) l_l_is_integer c_l_is_integer k_l_is_integer).binds fun _ _ _ _ _ _ us hl => match us, hl with | [_], _ => rfl⟩, ⟨f_l_is_crowd, _, fun_mk (st := s_l_is_crowd) l_l_is_crowd c_l_is_crowd k_l_is_crowd, PySem.W.mg_of X G a_l_is_crowd, (fun_mk (st := s_l_is_crowd) l_l_is_crowd c_l_is_crowd k_l_is_crowd).binds fun _ _ _ _ _ _ us hl => match us, hl with | [_, _], _ => rfl⟩, ⟨f_l_due, _, fun_mk (st := s_l_due) l_l_due c_l_due k_l_due, PySem.W.mg_of X G a_l_due, (fun_mk (st := s_l_due) l_l_due c_l_due k_l_due).binds fun _ _ _ _ _ _ us hl => match us, hl with | [_, _, _, _, _], _ => rfl⟩⟩
  exact f_law T (fun_mk (st := s_law) l_law c_law k_law) hlaw
end W
open PySem PySem.W PyProof.Rows in
set_option maxRecDepth 100000 in
set_option maxHeartbeats 0 in
theorem PySem.Challenge.cw_lastoflot_k67_whole_out_through_judged_holds : PySem.Challenge.rw_lastoflot_k67_whole_out_through_judged.Holds := by
  w_on; o_law; k_head; (case hw => w_witness2)
  k_fill
  refine Dl.law_walk (l := PySem.Challenge.rw_lastoflot_k67_whole_out_through_judged) (x := "_law_script") (k := 66) rfl rfl ⟨rfl, by decide, by decide⟩ (fun w h Y => PySem.W.kIn_of Y) ?F
  case F =>
    intro w mg fa h KX G hmg
    refine' W.all_mk KX G hmg ?z_abs ?z_all ?z_any ?z_bool ?z_enumerate ?z_int ?z_isinstance ?z_len ?z_list ?z_max ?z_range ?z_set ?z_sorted ?z_sum ?z_tuple ?y_MOST_LOTS ?y_MOST_PEOPLE ?aC_Book ?pg_Book ?hd_Book ?po_Book ?sa_Book ?ha_Book ?hm_Book ?kint_Book ?kbool_Book ?kstr_Book ?ktuple_Book ?klist_Book ?kdict_Book ?na_Book_people ?na_Book_lots ?na_Book_masks ?mk_Book ?kc_Book ?aC_Office ?pg_Office ?hd_Office ?po_Office ?sa_Office ?ha_Office ?hm_Office ?kint_Office ?kbool_Office ?kstr_Office ?ktuple_Office ?klist_Office ?kdict_Office ?na_Office_book ?na_Office_order ?na_Office_kept_lasts ?na_Office_bars ?mk_Office ?kc_Office ?kx_NoneType_Book ?kx_int_Book ?kx_bool_Book ?kx_str_Book ?kx_tuple_Book ?kx_list_Book ?kx_dict_Book ?kx_Book_Book ?kx_Office_Book ?hn_ ?ht_ ?a_l_hand ?l_l_hand ?c_l_hand ?k_l_hand ?a_l_draw ?l_l_draw ?c_l_draw ?k_l_draw ?a_l_least_lots ?l_l_least_lots ?c_l_least_lots ?k_l_least_lots ?a_l_rich_lots ?l_l_rich_lots ?c_l_rich_lots ?k_l_rich_lots ?a_l_order ?l_l_order ?c_l_order ?k_l_order ?a_is_integer ?l_is_integer ?c_is_integer ?k_is_integer ?a_is_within ?l_is_within ?c_is_within ?k_is_within ?a_are_persons ?l_are_persons ?c_are_persons ?k_are_persons ?a_is_row ?l_is_row ?c_is_row ?k_is_row ?a_is_order ?l_is_order ?c_is_order ?k_is_order ?a_lasts_in ?l_lasts_in ?c_lasts_in ?k_lasts_in ?a_Office___init__ ?i_Office___init__ ?l_Office___init__ ?c_Office___init__ ?k_Office___init__ ?a_are_ascending ?l_are_ascending ?c_are_ascending ?k_are_ascending ?a_is_crowd ?l_is_crowd ?c_is_crowd ?k_is_crowd ?a_is_lot ?l_is_lot ?c_is_lot ?k_is_lot ?a_bits_of ?l_bits_of ?c_bits_of ?k_bits_of ?a_holds ?l_holds ?c_holds ?k_holds ?a_first_wrong_lot ?l_first_wrong_lot ?c_first_wrong_lot ?k_first_wrong_lot ?a_Book_keep ?i_Book_keep ?l_Book_keep ?c_Book_keep ?k_Book_keep ?a_Book___init__ ?i_Book___init__ ?l_Book___init__ ?c_Book___init__ ?k_Book___init__ ?a_l_bits ?l_l_bits ?c_l_bits ?k_l_bits ?a_l_masks ?l_l_masks ?c_l_masks ?k_l_masks ?a_check_person ?l_check_person ?c_check_person ?k_check_person ?a_lots_through ?l_lots_through ?c_lots_through ?k_lots_through ?a_most_apart ?l_most_apart ?c_most_apart ?k_most_apart ?a_flower_in ?l_flower_in ?c_flower_in ?k_flower_in ?a_ahead_of ?l_ahead_of ?c_ahead_of ?k_ahead_of ?a_longest_out ?l_longest_out ?c_longest_out ?k_longest_out ?a_l_let ?l_l_let ?c_l_let ?k_l_let ?a_l_crowd ?l_l_crowd ?c_l_crowd ?k_l_crowd ?a_l_next ?l_l_next ?c_l_next ?k_l_next ?a_l_led ?l_l_led ?c_l_led ?k_l_led ?a_l_odd ?l_l_odd ?c_l_odd ?k_l_odd ?a_l_deep ?l_l_deep ?c_l_deep ?k_l_deep ?a_l_crowd_bent ?l_l_crowd_bent ?c_l_crowd_bent ?k_l_crowd_bent ?a_l_bent ?l_l_bent ?c_l_bent ?k_l_bent ?a_l_flag ?l_l_flag ?c_l_flag ?k_l_flag ?a_are_crowds_with ?l_are_crowds_with ?c_are_crowds_with ?k_are_crowds_with ?a_is_barred ?l_is_barred ?c_is_barred ?k_is_barred ?a_in_bits ?l_in_bits ?c_in_bits ?k_in_bits ?a_moved_back ?l_moved_back ?c_moved_back ?k_moved_back ?a_day_behind ?l_day_behind ?c_day_behind ?k_day_behind ?a_is_out_through ?l_is_out_through ?c_is_out_through ?k_is_out_through ?a_l_is_integer ?l_l_is_integer ?c_l_is_integer ?k_l_is_integer ?a_l_is_crowd ?l_l_is_crowd ?c_l_is_crowd ?k_l_is_crowd ?a_l_due ?l_l_due ?c_l_due ?k_l_due ?a_law ?l_law ?c_law ?k_law W.law_true
    (case z_abs => k_is)
    (case z_all => k_is)
    (case z_any => k_is)
    (case z_bool => k_is)
    (case z_enumerate => k_is)
    (case z_int => k_is)
    (case z_isinstance => k_is)
    (case z_len => k_is)
    (case z_list => k_is)
    (case z_max => k_is)
    (case z_range => k_is)
    (case z_set => k_is)
    (case z_sorted => k_is)
    (case z_sum => k_is)
    (case z_tuple => k_is)
    (case y_MOST_LOTS => k_is)
    (case y_MOST_PEOPLE => k_is)
    (case aC_Book => k_is)
    (case pg_Book => k_is)
    (case hd_Book => k_is)
    (case po_Book => k_is)
    (case sa_Book => k_is)
    (case ha_Book => k_is)
    (case hm_Book => k_is)
    (case kint_Book => kit_is)
    (case kbool_Book => kit_is)
    (case kstr_Book => kit_is)
    (case ktuple_Book => kit_is)
    (case klist_Book => kit_is)
    (case kdict_Book => kit_is)
    (case na_Book_people => k_is)
    (case na_Book_lots => k_is)
    (case na_Book_masks => k_is)
    (case mk_Book => k_is)
    (case kc_Book => k_is)
    (case aC_Office => k_is)
    (case pg_Office => k_is)
    (case hd_Office => k_is)
    (case po_Office => k_is)
    (case sa_Office => k_is)
    (case ha_Office => k_is)
    (case hm_Office => k_is)
    (case kint_Office => kit_is)
    (case kbool_Office => kit_is)
    (case kstr_Office => kit_is)
    (case ktuple_Office => kit_is)
    (case klist_Office => kit_is)
    (case kdict_Office => kit_is)
    (case na_Office_book => k_is)
    (case na_Office_order => k_is)
    (case na_Office_kept_lasts => k_is)
    (case na_Office_bars => k_is)
    (case mk_Office => k_is)
    (case kc_Office => k_is)
    (case kx_NoneType_Book => kit_is)
    (case kx_int_Book => kit_is)
    (case kx_bool_Book => kit_is)
    (case kx_str_Book => kit_is)
    (case kx_tuple_Book => kit_is)
    (case kx_list_Book => kit_is)
    (case kx_dict_Book => kit_is)
    (case kx_Book_Book => kit_is)
    (case kx_Office_Book => kit_is)
    (case hn_ => k_is)
    (case ht_ => k_is)
    (case a_l_hand => k_is)
    (case l_l_hand => k_is)
    (case c_l_hand => k_is)
    (case k_l_hand => k_is)
    (case a_l_draw => k_is)
    (case l_l_draw => k_is)
    (case c_l_draw => k_is)
    (case k_l_draw => k_is)
    (case a_l_least_lots => k_is)
    (case l_l_least_lots => k_is)
    (case c_l_least_lots => k_is)
    (case k_l_least_lots => k_is)
    (case a_l_rich_lots => k_is)
    (case l_l_rich_lots => k_is)
    (case c_l_rich_lots => k_is)
    (case k_l_rich_lots => k_is)
    (case a_l_order => k_is)
    (case l_l_order => k_is)
    (case c_l_order => k_is)
    (case k_l_order => k_is)
    (case a_is_integer => k_is)
    (case l_is_integer => k_is)
    (case c_is_integer => k_is)
    (case k_is_integer => k_is)
    (case a_is_within => k_is)
    (case l_is_within => k_is)
    (case c_is_within => k_is)
    (case k_is_within => k_is)
    (case a_are_persons => k_is)
    (case l_are_persons => k_is)
    (case c_are_persons => k_is)
    (case k_are_persons => k_is)
    (case a_is_row => k_is)
    (case l_is_row => k_is)
    (case c_is_row => k_is)
    (case k_is_row => k_is)
    (case a_is_order => k_is)
    (case l_is_order => k_is)
    (case c_is_order => k_is)
    (case k_is_order => k_is)
    (case a_lasts_in => k_is)
    (case l_lasts_in => k_is)
    (case c_lasts_in => k_is)
    (case k_lasts_in => k_is)
    (case a_Office___init__ => k_is)
    (case i_Office___init__ => k_is)
    (case l_Office___init__ => k_is)
    (case c_Office___init__ => k_is)
    (case k_Office___init__ => k_is)
    (case a_are_ascending => k_is)
    (case l_are_ascending => k_is)
    (case c_are_ascending => k_is)
    (case k_are_ascending => k_is)
    (case a_is_crowd => k_is)
    (case l_is_crowd => k_is)
    (case c_is_crowd => k_is)
    (case k_is_crowd => k_is)
    (case a_is_lot => k_is)
    (case l_is_lot => k_is)
    (case c_is_lot => k_is)
    (case k_is_lot => k_is)
    (case a_bits_of => k_is)
    (case l_bits_of => k_is)
    (case c_bits_of => k_is)
    (case k_bits_of => k_is)
    (case a_holds => k_is)
    (case l_holds => k_is)
    (case c_holds => k_is)
    (case k_holds => k_is)
    (case a_first_wrong_lot => k_is)
    (case l_first_wrong_lot => k_is)
    (case c_first_wrong_lot => k_is)
    (case k_first_wrong_lot => k_is)
    (case a_Book_keep => k_is)
    (case i_Book_keep => k_is)
    (case l_Book_keep => k_is)
    (case c_Book_keep => k_is)
    (case k_Book_keep => k_is)
    (case a_Book___init__ => k_is)
    (case i_Book___init__ => k_is)
    (case l_Book___init__ => k_is)
    (case c_Book___init__ => k_is)
    (case k_Book___init__ => k_is)
    (case a_l_bits => k_is)
    (case l_l_bits => k_is)
    (case c_l_bits => k_is)
    (case k_l_bits => k_is)
    (case a_l_masks => k_is)
    (case l_l_masks => k_is)
    (case c_l_masks => k_is)
    (case k_l_masks => k_is)
    (case a_check_person => k_is)
    (case l_check_person => k_is)
    (case c_check_person => k_is)
    (case k_check_person => k_is)
    (case a_lots_through => k_is)
    (case l_lots_through => k_is)
    (case c_lots_through => k_is)
    (case k_lots_through => k_is)
    (case a_most_apart => k_is)
    (case l_most_apart => k_is)
    (case c_most_apart => k_is)
    (case k_most_apart => k_is)
    (case a_flower_in => k_is)
    (case l_flower_in => k_is)
    (case c_flower_in => k_is)
    (case k_flower_in => k_is)
    (case a_ahead_of => k_is)
    (case l_ahead_of => k_is)
    (case c_ahead_of => k_is)
    (case k_ahead_of => k_is)
    (case a_longest_out => k_is)
    (case l_longest_out => k_is)
    (case c_longest_out => k_is)
    (case k_longest_out => k_is)
    (case a_l_let => k_is)
    (case l_l_let => k_is)
    (case c_l_let => k_is)
    (case k_l_let => k_is)
    (case a_l_crowd => k_is)
    (case l_l_crowd => k_is)
    (case c_l_crowd => k_is)
    (case k_l_crowd => k_is)
    (case a_l_next => k_is)
    (case l_l_next => k_is)
    (case c_l_next => k_is)
    (case k_l_next => k_is)
    (case a_l_led => k_is)
    (case l_l_led => k_is)
    (case c_l_led => k_is)
    (case k_l_led => k_is)
    (case a_l_odd => k_is)
    (case l_l_odd => k_is)
    (case c_l_odd => k_is)
    (case k_l_odd => k_is)
    (case a_l_deep => k_is)
    (case l_l_deep => k_is)
    (case c_l_deep => k_is)
    (case k_l_deep => k_is)
    (case a_l_crowd_bent => k_is)
    (case l_l_crowd_bent => k_is)
    (case c_l_crowd_bent => k_is)
    (case k_l_crowd_bent => k_is)
    (case a_l_bent => k_is)
    (case l_l_bent => k_is)
    (case c_l_bent => k_is)
    (case k_l_bent => k_is)
    (case a_l_flag => k_is)
    (case l_l_flag => k_is)
    (case c_l_flag => k_is)
    (case k_l_flag => k_is)
    (case a_are_crowds_with => k_is)
    (case l_are_crowds_with => k_is)
    (case c_are_crowds_with => k_is)
    (case k_are_crowds_with => k_is)
    (case a_is_barred => k_is)
    (case l_is_barred => k_is)
    (case c_is_barred => k_is)
    (case k_is_barred => k_is)
    (case a_in_bits => k_is)
    (case l_in_bits => k_is)
    (case c_in_bits => k_is)
    (case k_in_bits => k_is)
    (case a_moved_back => k_is)
    (case l_moved_back => k_is)
    (case c_moved_back => k_is)
    (case k_moved_back => k_is)
    (case a_day_behind => k_is)
    (case l_day_behind => k_is)
    (case c_day_behind => k_is)
    (case k_day_behind => k_is)
    (case a_is_out_through => k_is)
    (case l_is_out_through => k_is)
    (case c_is_out_through => k_is)
    (case k_is_out_through => k_is)
    (case a_l_is_integer => k_is)
    (case l_l_is_integer => k_is)
    (case c_l_is_integer => k_is)
    (case k_l_is_integer => k_is)
    (case a_l_is_crowd => k_is)
    (case l_l_is_crowd => k_is)
    (case c_l_is_crowd => k_is)
    (case k_l_is_crowd => k_is)
    (case a_l_due => k_is)
    (case l_l_due => k_is)
    (case c_l_due => k_is)
    (case k_l_due => k_is)
    (case a_law => k_is)
    (case l_law => k_is)
    (case c_law => k_is)
    (case k_law => k_is)
