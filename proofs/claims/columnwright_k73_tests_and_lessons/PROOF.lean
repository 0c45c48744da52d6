import PyProof.Rows.All
import Wide.All
import OpenK.AllK
import Wide.FinOn
import HandS.ForMost
import HandS.ForExc
import HandS.ForSpec
import HandS.Conv
import HandS.TupAny
import HandS.Wide
import HandS.IsInst
import KE.KExcSuper
import HandS.ExcInit
import HandS.ExcField
import HandS.ExcIs
import HandS.TupMul
import PyProof.StrLawsIn
import HandS.Deep
import KE.BitLaws
import HandS.WideBits
import PySem.Challenge.RW_columnwright_k73_tests_and_lessons
set_option Elab.async false
set_option linter.all false
set_option maxRecDepth 100000
set_option maxHeartbeats 4000000
/-! QL: a layer of plain data over the hand layer. Values D have no addresses; what may change stands in numbered cells. -/
namespace QL
open PySem L2

inductive D where
  | non | bl (b : Bool) | int (i : Int) | str (x : Str) | ty (n : String)
  | tup (xs : List D) | lst (xs : List D) | scr (xs : List D)
  | obj (C : Addr) (ns : List Str) (vs : List D)

/-- an exception: its class, its fields -/
inductive Ex where
  | own (x : Str) (ns : List Str) (vs : List D)
  | blt (n : String)

inductive P where
  | d (x : D) | loc (n : Nat)
  | exc (a : Addr) (cls : Value) (dd : Option Addr) (ex : Ex)

inductive Cell where
  | lst (xs : List D) | frz (xs : List D)

abbrev LS := List Cell
abbrev SS := List (Option P)

/-- a point: the abstract heap, the addresses of the cells, what never changes any more -/
structure Pt where
  H : Hp
  rho : List Addr
  F : Addr → Prop

/-- where the module's name x stands for an object -/
def clsA (K : PySem.W.Frag) (x : Str) : Addr := match PySem.W.nsIn K mainGlobals x with
  | some (some (.ref a)) => a
  | _ => 0
section
variable (K : PySem.W.Frag)
def TupAt (p : Pt) (a : Addr) (vs : List V) : Prop := (p.F a ∧ Rd p.H a (.tup vs)) ∨ SqT K (fun _ => none) a vs
def LstAt (p : Pt) (a : Addr) (vs : List V) : Prop := p.F a ∧ p.H a = some (.lst vs)
def ScrAt (p : Pt) (a : Addr) (vs : List V) : Prop := (p.F a ∧ Rd p.H a (.lst vs)) ∨ SqL K (fun _ => none) a vs
mutual
inductive RD (p : Pt) : D → V → Prop
  | non : RD p .non .non
  | bl (b : Bool) : RD p (.bl b) (.bl b)
  | int (i : Int) : RD p (.int i) (.int i)
  | str (x : Str) : RD p (.str x) (.str x)
  | ty (n : String) : RD p (.ty n) (.ty n)
  | tup {a : Addr} {xs : List D} {vs : List V} : TupAt K p a vs → RDs p xs vs → RD p (.tup xs) (.ref a)
  | lst {a : Addr} {xs : List D} {vs : List V} : LstAt p a vs → RDs p xs vs → RD p (.lst xs) (.ref a)
  | scr {a : Addr} {xs : List D} {vs : List V} : ScrAt K p a vs → RDs p xs vs → RD p (.scr xs) (.ref a)
  | obj {a C dx : Addr} {ns : List Str} {xs : List D} {vs : List V} : p.F a → p.H a = some (.ins C dx (ns.zip vs)) → RDs p xs vs → RD p (.obj C ns xs) (.ref a)
inductive RDs (p : Pt) : List D → List V → Prop
  | nil : RDs p [] []
  | cons {x : D} {v : V} {xs : List D} {vs : List V} : RD p x v → RDs p xs vs → RDs p (x :: xs) (v :: vs)
end
def XR (p : Pt) : Ex → Value → Option Addr → Prop
  | .own x ns xs, cls, d => cls = .ref (clsA K x) ∧ ∃ a vs, d = some a ∧ p.F a ∧ p.H a = some (.xd (ns.zip vs)) ∧ RDs K p xs vs
  | .blt n, cls, d => cls = .type n ∧ d = none
def RP (p : Pt) : P → V → Prop
  | .d x, v => RD K p x v
  | .loc n, v => ∃ a, p.rho[n]? = some a ∧ v = .ref a
  | .exc a cls d ex, v => v = .ref a ∧ XR K p ex cls d
def CellOk (p : Pt) : Cell → Addr → Prop
  | .lst xs, a => ¬ p.F a ∧ ∃ vs, p.H a = some (.lst vs) ∧ RDs K p xs vs
  | .frz xs, a => ∃ vs, LstAt p a vs ∧ RDs K p xs vs
structure WF (p : Pt) : Prop where
  nd : p.rho.Nodup
  hs : ∀ a ∈ p.rho, ∃ o, p.H a = some o
  fs : ∀ a, p.F a → ∃ o, p.H a = some o
structure HF (p p' : Pt) : Prop where
  fm : ∀ a, p.F a → p'.F a
  keepF : ∀ b o, p.H b = some o → p.F b → p'.H b = some o
structure Ext (p p' : Pt) : Prop where
  pre : ∃ t, p'.rho = p.rho ++ t
  new : ∀ a ∈ p'.rho, a ∈ p.rho ∨ p.H a = none
  fm : ∀ a, p.F a → p'.F a
  fn : ∀ a, p'.F a → p.F a ∨ p.H a = none ∨ a ∈ p.rho
  keep : ∀ b o, p.H b = some o → b ∉ p.rho → p'.H b = some o
  keepF : ∀ b o, p.H b = some o → p.F b → p'.H b = some o
  there : ∀ b o, p.H b = some o → ∃ o', p'.H b = some o'
def Cells (p : Pt) (l : LS) : Prop := l.length = p.rho.length ∧ ∀ (i : Nat) (c : Cell), l[i]? = some c → ∃ a, p.rho[i]? = some a ∧ CellOk K p c a
def Slots (p : Pt) (σd : SS) (σ : St) : Prop := σd.length = σ.length ∧ ∀ (i : Nat) (d : P), σd[i]? = some (some d) → ∃ v, σ[i]? = some (some v) ∧ RP K p d v
structure Rel (p : Pt) (σ : St) (σd : SS) (l : LS) : Prop where
  wf : WF p
  sl : Slots K p σd σ
  ce : Cells K p l
end

section
variable {K : PySem.W.Frag} {p p' p'' : Pt} {a : Addr}
theorem Ext.refl (p : Pt) : Ext p p := ⟨⟨[], by simp⟩, fun _ h => .inl h, fun _ h => h, fun _ h => .inl h, fun _ _ h _ => h, fun _ _ h _ => h, fun _ o h => ⟨o, h⟩⟩
theorem none_back (e : Ext p p') (h : p'.H a = none) : p.H a = none := by
  cases q : p.H a with
  | none => rfl
  | some o =>
    obtain ⟨o', z⟩ := e.there _ _ q
    rw [h] at z
    cases z
theorem Ext.trans (e : Ext p p') (f : Ext p' p'') : Ext p p'' := by
  obtain ⟨t, ht⟩ := e.pre
  obtain ⟨u, hu⟩ := f.pre
  refine ⟨⟨t ++ u, by rw [hu, ht, List.append_assoc]⟩, fun a h => ?_, fun a h => f.fm a (e.fm a h), fun a h => ?_, fun b o h n => ?_, fun b o h n => f.keepF b o (e.keepF b o h n) (e.fm b n), fun b o h => ?_⟩
  · rcases f.new a h with h | h
    · exact e.new a h
    · exact .inr (none_back e h)
  · rcases f.fn a h with h | h | h
    · exact e.fn a h
    · exact .inr (.inl (none_back e h))
    · rcases e.new a h with h | h
      · exact .inr (.inr h)
      · exact .inr (.inl h)
  · by_cases m : b ∈ p'.rho
    · rcases e.new b m with z | z
      · exact absurd z n
      · rw [h] at z; cases z
    · exact f.keep b o (e.keep b o h n) m
  · obtain ⟨o', h'⟩ := e.there b o h
    exact f.there b o' h'
theorem rd_keep {H H' : Hp} {u : HO} (h : Rd H a u) (k : ∀ o, H a = some o → H' a = some o) : Rd H' a u := by
  rcases h with h | ⟨o, h⟩
  · exact .inl (k _ h)
  · exact .inr ⟨o, k _ h⟩
theorem Ext.hf (e : Ext p p') : HF p p' := ⟨e.fm, e.keepF⟩
theorem TupAt.mono {vs : List V} (e : HF p p') (h : TupAt K p a vs) : TupAt K p' a vs := by
  rcases h with ⟨f, h⟩ | h
  · exact .inl ⟨e.fm _ f, rd_keep h fun o z => e.keepF _ _ z f⟩
  · exact .inr h
theorem LstAt.mono {vs : List V} (e : HF p p') (h : LstAt p a vs) : LstAt p' a vs := ⟨e.fm _ h.1, e.keepF _ _ h.2 h.1⟩
theorem ScrAt.mono {vs : List V} (e : HF p p') (h : ScrAt K p a vs) : ScrAt K p' a vs := by
  rcases h with ⟨f, h⟩ | h
  · exact .inl ⟨e.fm _ f, rd_keep h fun o z => e.keepF _ _ z f⟩
  · exact .inr h
theorem seqT_empty {H : Hp} {vs : List V} (h : SqT K (fun _ => none) a vs) : SqT K H a vs := by
  rcases h with (h | ⟨o, h⟩) | h
  · cases h
  · cases h
  · exact .inr h
theorem seqL_empty {H : Hp} {vs : List V} (h : SqL K (fun _ => none) a vs) : SqL K H a vs := by
  rcases h with (h | ⟨o, h⟩) | h
  · cases h
  · cases h
  · exact .inr h
theorem TupAt.sq {vs : List V} (h : TupAt K p a vs) : SqT K p.H a vs := by
  rcases h with ⟨_, h⟩ | h
  · exact .inl h
  · exact seqT_empty h
theorem LstAt.sq {vs : List V} (h : LstAt p a vs) : SqL K p.H a vs := .inl (.inl h.2)
theorem ScrAt.sq {vs : List V} (h : ScrAt K p a vs) : SqL K p.H a vs := by
  rcases h with ⟨_, h⟩ | h
  · exact .inl h
  · exact seqL_empty h
mutual
theorem RD.mono (e : HF p p') : ∀ {x : D} {v : V}, RD K p x v → RD K p' x v
  | _, _, .non => .non
  | _, _, .bl b => .bl b
  | _, _, .int i => .int i
  | _, _, .str x => .str x
  | _, _, .ty n => .ty n
  | _, _, .tup h r => .tup (h.mono e) (RDs.mono e r)
  | _, _, .lst h r => .lst (h.mono e) (RDs.mono e r)
  | _, _, .scr h r => .scr (h.mono e) (RDs.mono e r)
  | _, _, .obj f h r => .obj (e.fm _ f) (e.keepF _ _ h f) (RDs.mono e r)
theorem RDs.mono (e : HF p p') : ∀ {xs : List D} {vs : List V}, RDs K p xs vs → RDs K p' xs vs
  | _, _, .nil => .nil
  | _, _, .cons h r => .cons (RD.mono e h) (RDs.mono e r)
end
theorem RDs.len : ∀ {xs : List D} {vs : List V}, RDs K p xs vs → xs.length = vs.length
  | _, _, .nil => rfl
  | _, _, .cons _ r => by simp [RDs.len r]
theorem RDs.get : ∀ {xs : List D} {vs : List V} {i : Nat} {x : D}, RDs K p xs vs → xs[i]? = some x → ∃ v, vs[i]? = some v ∧ RD K p x v
  | _, _, _, _, .nil, h => by simp at h
  | _, _, 0, _, .cons h _, e => ⟨_, rfl, by simp at e; rw [← e]; exact h⟩
  | _, _, i + 1, _, .cons _ r, e => by
    obtain ⟨v, h1, h2⟩ := RDs.get (i := i) r (by simpa using e)
    exact ⟨v, by simpa using h1, h2⟩
theorem RDs.append : ∀ {xs ys : List D} {vs ws : List V}, RDs K p xs vs → RDs K p ys ws → RDs K p (xs ++ ys) (vs ++ ws)
  | _, _, _, _, .nil, s => s
  | _, _, _, _, .cons h r, s => .cons h (RDs.append r s)
theorem RDs.set {x : D} {v : V} (h : RD K p x v) : ∀ {xs : List D} {vs : List V} (i : Nat), RDs K p xs vs → RDs K p (xs.set i x) (vs.set i v)
  | _, _, _, .nil => .nil
  | _, _, 0, .cons _ t => .cons h t
  | _, _, i + 1, .cons q t => .cons q (RDs.set h i t)
theorem RDs.take : ∀ {xs : List D} {vs : List V} (n : Nat), RDs K p xs vs → RDs K p (xs.take n) (vs.take n)
  | _, _, 0, _ => .nil
  | _, _, _ + 1, .nil => .nil
  | _, _, n + 1, .cons h t => .cons h (RDs.take n t)
theorem RDs.drop : ∀ {xs : List D} {vs : List V} (n : Nat), RDs K p xs vs → RDs K p (xs.drop n) (vs.drop n)
  | _, _, 0, h => h
  | _, _, _ + 1, .nil => .nil
  | _, _, n + 1, .cons _ t => RDs.drop n t
theorem RDs.reverse : ∀ {xs : List D} {vs : List V}, RDs K p xs vs → RDs K p xs.reverse vs.reverse
  | _, _, .nil => .nil
  | _, _, .cons h r => by
    rw [List.reverse_cons, List.reverse_cons]
    exact RDs.append (RDs.reverse r) (.cons h .nil)
theorem RDs.eraseIdx : ∀ {xs : List D} {vs : List V} (n : Nat), RDs K p xs vs → RDs K p (xs.eraseIdx n) (vs.eraseIdx n)
  | _, _, _, .nil => .nil
  | _, _, 0, .cons _ t => t
  | _, _, n + 1, .cons h t => .cons h (RDs.eraseIdx n t)
theorem RDs.dropLast {xs : List D} {vs : List V} (h : RDs K p xs vs) : RDs K p xs.dropLast vs.dropLast := by
  rw [List.dropLast_eq_take, List.dropLast_eq_take, h.len]
  exact h.take _
theorem XR.mono (e : HF p p') {ex : Ex} {c : Value} {d : Option Addr} (h : XR K p ex c d) : XR K p' ex c d := by
  cases ex with
  | own C ns xs =>
    obtain ⟨h1, a, vs, h2, f, h3, h4⟩ := h
    exact ⟨h1, a, vs, h2, e.fm _ f, e.keepF _ _ h3 f, h4.mono e⟩
  | blt n => exact h
theorem RP.mono (e : Ext p p') {x : P} {v : V} (h : RP K p x v) : RP K p' x v := by
  cases x with
  | d x => exact RD.mono e.hf h
  | loc n =>
    obtain ⟨a, h1, h2⟩ := h
    obtain ⟨t, ht⟩ := e.pre
    refine ⟨a, ?_, h2⟩
    rw [ht, List.getElem?_append_left]
    · exact h1
    · exact (List.getElem?_eq_some_iff.mp h1).1
  | exc a c d ex => exact ⟨h.1, h.2.mono e.hf⟩
theorem Slots.mono (e : Ext p p') {σ : St} {σd : SS} (h : Slots K p σd σ) : Slots K p' σd σ := ⟨h.1, fun i d q => by
  obtain ⟨v, h1, h2⟩ := h.2 i d q
  exact ⟨v, h1, h2.mono e⟩⟩
theorem Slots.set {σ : St} {σd : SS} (h : Slots K p σd σ) {i : Nat} {d : P} {v : V} (r : RP K p d v) : Slots K p (σd.set i (some d)) (σ.set i (some v)) := by
  refine ⟨by simp [h.1], fun j d' q => ?_⟩
  by_cases e : i = j
  · subst e
    by_cases hl : i < σd.length
    · rw [List.getElem?_set_self hl] at q
      cases q
      exact ⟨v, List.getElem?_set_self (by rw [← h.1]; exact hl), r⟩
    · rw [List.getElem?_eq_none (by simpa using hl)] at q
      cases q
  · rw [List.getElem?_set_ne e] at q ⊢
    exact h.2 j d' q
theorem Slots.setNone {σ : St} {σd : SS} (h : Slots K p σd σ) {i : Nat} : Slots K p (σd.set i none) (σ.set i none) := by
  refine ⟨by simp [h.1], fun j d' q => ?_⟩
  by_cases e : i = j
  · subst e
    by_cases hl : i < σd.length
    · rw [List.getElem?_set_self hl] at q
      cases q
    · rw [List.getElem?_eq_none (by simpa using hl)] at q
      cases q
  · rw [List.getElem?_set_ne e] at q ⊢
    exact h.2 j d' q

/-- a new thing that never changes -/
abbrev Pt.frz (p : Pt) (a : Addr) (o : HO) : Pt := ⟨upd p.H a o, p.rho, fun b => p.F b ∨ b = a⟩
/-- a new cell -/
abbrev Pt.new (p : Pt) (a : Addr) (o : HO) : Pt := ⟨upd p.H a o, p.rho ++ [a], p.F⟩
/-- a cell written -/
abbrev Pt.put (p : Pt) (a : Addr) (o : HO) : Pt := ⟨upd p.H a o, p.rho, p.F⟩
/-- a cell that will not change any more -/
abbrev Pt.ice (p : Pt) (a : Addr) : Pt := ⟨p.H, p.rho, fun b => p.F b ∨ b = a⟩
theorem upd_some {H : Hp} {b : Addr} {o u : HO} (h : H b = some u) : ∃ z, upd H a o b = some z := by
  by_cases e : b = a
  · exact ⟨o, by rw [e, upd_same]⟩
  · exact ⟨u, by rw [upd_ne e]; exact h⟩
theorem WF.nrho (w : WF p) (h : p.H a = none) : a ∉ p.rho := fun m => by
  obtain ⟨o, z⟩ := w.hs a m
  rw [h] at z; cases z
theorem WF.nF (w : WF p) (h : p.H a = none) : ¬ p.F a := fun m => by
  obtain ⟨o, z⟩ := w.fs a m
  rw [h] at z; cases z
theorem ext_frz {o : HO} (h : p.H a = none) : Ext p (p.frz a o) := by
  refine ⟨⟨[], by simp⟩, fun _ z => .inl z, fun _ z => .inl z, fun b z => ?_, fun b u z _ => ?_, fun b u z _ => ?_, fun b u z => upd_some z⟩
  · rcases z with z | z
    · exact .inl z
    · exact .inr (.inl (by rw [z]; exact h))
  · show upd _ _ _ _ = _
    rw [upd_ne (ne_of_none z h)]; exact z
  · show upd _ _ _ _ = _
    rw [upd_ne (ne_of_none z h)]; exact z
theorem wf_frz {o : HO} (w : WF p) : WF (p.frz a o) := by
  refine ⟨w.nd, fun b m => ?_, fun b m => ?_⟩
  · obtain ⟨u, z⟩ := w.hs b m
    exact upd_some z
  · rcases m with m | m
    · obtain ⟨u, z⟩ := w.fs b m
      exact upd_some z
    · exact ⟨o, by show upd _ _ _ _ = _; rw [m, upd_same]⟩
theorem ext_new {o : HO} (h : p.H a = none) : Ext p (p.new a o) := by
  refine ⟨⟨[a], rfl⟩, fun b z => ?_, fun _ z => z, fun b z => .inl z, fun b u z _ => ?_, fun b u z _ => ?_, fun b u z => upd_some z⟩
  · rcases List.mem_append.mp z with z | z
    · exact .inl z
    · simp at z
      exact .inr (by rw [z]; exact h)
  · show upd _ _ _ _ = _
    rw [upd_ne (ne_of_none z h)]; exact z
  · show upd _ _ _ _ = _
    rw [upd_ne (ne_of_none z h)]; exact z
theorem wf_new {o : HO} (w : WF p) (h : p.H a = none) : WF (p.new a o) := by
  refine ⟨?_, fun b m => ?_, fun b m => ?_⟩
  · show (p.rho ++ [a]).Nodup
    rw [List.nodup_append]
    refine ⟨w.nd, by simp, fun x hx y hy e => ?_⟩
    simp at hy
    subst hy; subst e
    exact w.nrho h hx
  · rcases List.mem_append.mp m with m | m
    · obtain ⟨u, z⟩ := w.hs b m
      exact upd_some z
    · simp at m
      exact ⟨o, by show upd _ _ _ _ = _; rw [m, upd_same]⟩
  · obtain ⟨u, z⟩ := w.fs b m
    exact upd_some z
theorem ext_put {o : HO} (hr : a ∈ p.rho) (hf : ¬ p.F a) : Ext p (p.put a o) := by
  refine ⟨⟨[], by simp⟩, fun _ z => .inl z, fun _ z => z, fun b z => .inl z, fun b u z n => ?_, fun b u z n => ?_, fun b u z => upd_some z⟩
  · show upd _ _ _ _ = _
    rw [upd_ne (fun e => n (by rw [e]; exact hr))]; exact z
  · show upd _ _ _ _ = _
    rw [upd_ne (fun e => hf (by rw [← e]; exact n))]; exact z
theorem wf_put {o : HO} (w : WF p) : WF (p.put a o) := by
  refine ⟨w.nd, fun b m => ?_, fun b m => ?_⟩
  · obtain ⟨u, z⟩ := w.hs b m
    exact upd_some z
  · obtain ⟨u, z⟩ := w.fs b m
    exact upd_some z
theorem ext_ice (hr : a ∈ p.rho) : Ext p (p.ice a) := by
  refine ⟨⟨[], by simp⟩, fun _ z => .inl z, fun _ z => .inl z, fun b z => ?_, fun b u z n => z, fun b u z n => z, fun b u z => ⟨u, z⟩⟩
  rcases z with z | z
  · exact .inl z
  · exact .inr (.inr (by rw [z]; exact hr))
theorem wf_ice (w : WF p) (hr : a ∈ p.rho) : WF (p.ice a) := by
  refine ⟨w.nd, w.hs, fun b m => ?_⟩
  rcases m with m | m
  · exact w.fs b m
  · rw [m]; exact w.hs a hr
theorem CellOk.mono {c : Cell} {b : Addr} (e : Ext p p') (h : CellOk K p c b) (k : p'.H b = p.H b) (kf : p'.F b → p.F b) : CellOk K p' c b := by
  cases c with
  | lst xs =>
    obtain ⟨nf, vs, h1, h2⟩ := h
    exact ⟨fun z => nf (kf z), vs, by rw [k]; exact h1, h2.mono e.hf⟩
  | frz xs =>
    obtain ⟨vs, h1, h2⟩ := h
    exact ⟨vs, h1.mono e.hf, h2.mono e.hf⟩
theorem Cells.get {l : LS} {i : Nat} {c : Cell} (h : Cells K p l) (e : l[i]? = some c) : ∃ a, p.rho[i]? = some a ∧ CellOk K p c a := h.2 i c e
theorem Cells.frz {l : LS} {o : HO} (w : WF p) (ce : Cells K p l) (h : p.H a = none) : Cells K (p.frz a o) l := by
  refine ⟨ce.1, fun i c e => ?_⟩
  obtain ⟨b, h1, h2⟩ := ce.2 i c e
  have nb : b ≠ a := fun z => w.nrho h (by rw [← z]; exact List.mem_of_getElem? h1)
  refine ⟨b, h1, h2.mono (ext_frz h) (by show upd _ _ _ _ = _; rw [upd_ne nb]) fun z => ?_⟩
  rcases z with z | z
  · exact z
  · exact absurd z nb
theorem Cells.new {l : LS} {o : HO} {c : Cell} (w : WF p) (ce : Cells K p l) (h : p.H a = none) (hc : CellOk K (p.new a o) c a) : Cells K (p.new a o) (l ++ [c]) := by
  refine ⟨by simp [ce.1], fun i d e => ?_⟩
  by_cases hi : i < l.length
  · rw [List.getElem?_append_left hi] at e
    obtain ⟨b, h1, h2⟩ := ce.2 i d e
    have nb : b ≠ a := fun z => w.nrho h (by rw [← z]; exact List.mem_of_getElem? h1)
    refine ⟨b, ?_, h2.mono (ext_new h) (by show upd _ _ _ _ = _; rw [upd_ne nb]) fun z => z⟩
    show (p.rho ++ [a])[i]? = _
    rw [List.getElem?_append_left (by rw [← ce.1]; exact hi)]
    exact h1
  · have hi' : i = l.length := by
      have := (List.getElem?_eq_some_iff.mp e).1
      simp at this
      omega
    subst hi'
    rw [List.getElem?_append_right (Nat.le_refl _)] at e
    simp at e
    subst e
    refine ⟨a, ?_, hc⟩
    show (p.rho ++ [a])[l.length]? = _
    rw [ce.1, List.getElem?_append_right (Nat.le_refl _)]
    simp
theorem nodup_at {xs : List Addr} (nd : xs.Nodup) {i j : Nat} {a : Addr} (h : xs[i]? = some a) (h' : xs[j]? = some a) : i = j := by
  obtain ⟨h1, e1⟩ := List.getElem?_eq_some_iff.mp h
  obtain ⟨h2, e2⟩ := List.getElem?_eq_some_iff.mp h'
  exact (List.getElem_inj nd).mp (e1.trans e2.symm)
theorem Cells.put {l : LS} {o : HO} {c : Cell} {i : Nat} (w : WF p) (ce : Cells K p l) (hi : p.rho[i]? = some a) (nf : ¬ p.F a) (hc : CellOk K (p.put a o) c a) : Cells K (p.put a o) (l.set i c) := by
  refine ⟨by simp [ce.1], fun j d e => ?_⟩
  by_cases hj : i = j
  · subst hj
    have hl : i < l.length := by
      have := (List.getElem?_eq_some_iff.mp e).1
      simpa using this
    rw [List.getElem?_set_self hl] at e
    cases e
    exact ⟨a, hi, hc⟩
  · rw [List.getElem?_set_ne hj] at e
    obtain ⟨b, h1, h2⟩ := ce.2 j d e
    have nb : b ≠ a := fun z => hj (nodup_at w.nd hi (by rw [← z]; exact h1))
    exact ⟨b, h1, h2.mono (ext_put (List.mem_of_getElem? hi) nf) (by show upd _ _ _ _ = _; rw [upd_ne nb]) fun z => z⟩
theorem Cells.ice {l : LS} {xs : List D} {i : Nat} (w : WF p) (ce : Cells K p l) (hi : p.rho[i]? = some a) (e : l[i]? = some (.lst xs)) : Cells K (p.ice a) (l.set i (.frz xs)) ∧ RD K (p.ice a) (.lst xs) (.ref a) := by
  have hr := List.mem_of_getElem? hi
  have ex := ext_ice hr
  obtain ⟨b, h1, nf, vs, h2, h3⟩ := ce.2 i _ e
  rw [hi] at h1
  cases h1
  have la : LstAt (p.ice a) a vs := ⟨.inr rfl, h2⟩
  refine ⟨⟨by simp [ce.1], fun j d e' => ?_⟩, .lst la (h3.mono ex.hf)⟩
  by_cases hj : i = j
  · subst hj
    have hl : i < l.length := (List.getElem?_eq_some_iff.mp e).1
    rw [List.getElem?_set_self hl] at e'
    cases e'
    exact ⟨a, hi, vs, la, h3.mono ex.hf⟩
  · rw [List.getElem?_set_ne hj] at e'
    obtain ⟨b, h1, h2⟩ := ce.2 j d e'
    have nb : b ≠ a := fun z => hj (nodup_at w.nd hi (by rw [← z]; exact h1))
    refine ⟨b, h1, h2.mono ex rfl fun z => ?_⟩
    rcases z with z | z
    · exact z
    · exact absurd z nb
end
end QL
set_option Elab.async false
set_option linter.all false
set_option maxRecDepth 100000
set_option maxHeartbeats 4000000
/-! QL2: the judgements over plain data, names, constants, operators, tests, blocks. -/
namespace QL
open PySem L2

abbrev EK := Ex → LS → Prop
abbrev WE := SS → LS → (P → LS → Prop) → EK → Prop
abbrev WT := SS → LS → (Bool → LS → Prop) → EK → Prop
abbrev WA := SS → LS → (List P → LS → Prop) → EK → Prop
structure ED where
  nx : SS → LS → Prop
  rt : P → LS → Prop
  bk : SS → LS → Prop
  ct : SS → LS → Prop
  ex : Ex → SS → LS → Prop
abbrev WS := ED → SS → LS → Prop
abbrev WG := P → SS → LS → (SS → LS → Prop) → Prop
abbrev WGs := List D → SS → LS → (SS → LS → Prop) → Prop

section
variable (K : PySem.W.Frag) (W : WX)
def LinkE (p : Pt) (σ : St) (σd : SS) (E : EK) : Prop := ∀ ex l' cls d p', Ext p p' → Rel K p' σ σd l' → XR K p' ex cls d → E ex l' → W cls d σ p'.H
def cE (w : WE) : TE := fun σ H Q => ∃ (p : Pt) (σd : SS) (l : LS) (Qd : P → LS → Prop) (Ed : EK), p.H = H ∧ Rel K p σ σd l ∧ w σd l Qd Ed ∧
  (∀ d l' v p', Ext p p' → Rel K p' σ σd l' → RP K p' d v → Qd d l' → Q v p'.H) ∧ LinkE K W p σ σd Ed
def cT (w : WT) : TT := fun σ H Q => ∃ (p : Pt) (σd : SS) (l : LS) (Qd : Bool → LS → Prop) (Ed : EK), p.H = H ∧ Rel K p σ σd l ∧ w σd l Qd Ed ∧
  (∀ b l' p', Ext p p' → Rel K p' σ σd l' → Qd b l' → Q b p'.H) ∧ LinkE K W p σ σd Ed
def RPs (p : Pt) : List P → List V → Prop := Paired (RP K p)
def cA (w : WA) : TA := fun σ H Q => ∃ (p : Pt) (σd : SS) (l : LS) (Qd : List P → LS → Prop) (Ed : EK), p.H = H ∧ Rel K p σ σd l ∧ w σd l Qd Ed ∧
  (∀ ds l' vs p', Ext p p' → Rel K p' σ σd l' → RPs K p' ds vs → Qd ds l' → Q vs p'.H) ∧ LinkE K W p σ σd Ed
structure EndsR (p : Pt) (D : Ends) (Dd : ED) : Prop where
  nx : ∀ p' σ' σd' l', Ext p p' → Rel K p' σ' σd' l' → Dd.nx σd' l' → D.nx σ' p'.H
  bk : ∀ p' σ' σd' l', Ext p p' → Rel K p' σ' σd' l' → Dd.bk σd' l' → D.bk σ' p'.H
  ct : ∀ p' σ' σd' l', Ext p p' → Rel K p' σ' σd' l' → Dd.ct σd' l' → D.ct σ' p'.H
  rt : ∀ p' d v l', Ext p p' → WF p' → Cells K p' l' → RP K p' d v → Dd.rt d l' → D.rt v p'.H
  ex : ∀ p' σ' σd' l' ex cls dd, Ext p p' → Rel K p' σ' σd' l' → XR K p' ex cls dd → Dd.ex ex σd' l' → W cls dd σ' p'.H
def cS (w : WS) : TS := fun D σ H => ∃ (p : Pt) (σd : SS) (l : LS) (Dd : ED), p.H = H ∧ Rel K p σ σd l ∧ w Dd σd l ∧ EndsR K W p D Dd
def cG (w : WG) : TG := fun v σ H Q => ∃ (p : Pt) (σd : SS) (l : LS) (d : P) (Qd : SS → LS → Prop), p.H = H ∧ Rel K p σ σd l ∧ RP K p d v ∧ w d σd l Qd ∧
  (∀ p' σ' σd' l', Ext p p' → Rel K p' σ' σd' l' → Qd σd' l' → Q σ' p'.H)
def cGs (w : WGs) : TGs := fun vs σ H Q => ∃ (p : Pt) (σd : SS) (l : LS) (ds : List D) (Qd : SS → LS → Prop), p.H = H ∧ Rel K p σ σd l ∧ RDs K p ds vs ∧ w ds σd l Qd ∧
  (∀ p' σ' σd' l', Ext p p' → Rel K p' σ' σd' l' → Qd σd' l' → Q σ' p'.H)
end
def QE (X : Cx) (W : WX) (e : Expr) (w : WE) : Prop := PE X e (cE X.K W w)
def QT (X : Cx) (W : WX) (e : Expr) (w : WT) : Prop := PT X e (cT X.K W w)
def QW (X : Cx) (W : WX) (e : Expr) (w : WT) : Prop := PW X e (cT X.K W w)
def QA (X : Cx) (W : WX) (es : List Expr) (w : WA) : Prop := PA X es (cA X.K W w)
def QS (X : Cx) (W : WX) (st : Stmt) (w : WS) : Prop := PS X st (cS X.K W w)
def QSs (X : Cx) (W : WX) (st : List Stmt) (w : WS) : Prop := PSs X st (cS X.K W w)
def QG (X : Cx) (tg : Expr) (w : WG) : Prop := PG X tg (cG X.K w)
def QGs (X : Cx) (ts : List Expr) (w : WGs) : Prop := PGs X ts (cGs X.K w)

theorem PE.imp {X : Cx} {e : Expr} {t t' : TE} (h : PE X e t) (k : ∀ σ H Q, t' σ H Q → t σ H Q) : PE X e t' := ⟨fun pins s σ H Q I q => h.run pins s σ H Q I (k σ H Q q)⟩
theorem PT.imp {X : Cx} {e : Expr} {t t' : TT} (h : PT X e t) (k : ∀ σ H Q, t' σ H Q → t σ H Q) : PT X e t' := ⟨fun pins s σ H Q I q => h.run pins s σ H Q I (k σ H Q q)⟩
theorem PW.imp {X : Cx} {e : Expr} {t t' : TT} (h : PW X e t) (k : ∀ σ H Q, t' σ H Q → t σ H Q) : PW X e t' := ⟨fun wh pins s σ H Q I q => h.run wh pins s σ H Q I (k σ H Q q)⟩
theorem PA.imp {X : Cx} {e : List Expr} {t t' : TA} (h : PA X e t) (k : ∀ σ H Q, t' σ H Q → t σ H Q) : PA X e t' := ⟨fun pos pins s σ H Q I q => h.run pos pins s σ H Q I (k σ H Q q)⟩
theorem PS.imp {X : Cx} {e : Stmt} {t t' : TS} (h : PS X e t) (k : ∀ D σ H, t' D σ H → t D σ H) : PS X e t' := ⟨fun pins s σ H D I q => h.run pins s σ H D I (k D σ H q)⟩
theorem PSs.imp {X : Cx} {e : List Stmt} {t t' : TS} (h : PSs X e t) (k : ∀ D σ H, t' D σ H → t D σ H) : PSs X e t' := ⟨fun pins s σ H D I q => h.run pins s σ H D I (k D σ H q)⟩
theorem PG.imp {X : Cx} {e : Expr} {t t' : TG} (h : PG X e t) (k : ∀ v σ H Q, t' v σ H Q → t v σ H Q) : PG X e t' := ⟨fun pins s σ H v u Q I r q => h.run pins s σ H v u Q I r (k v σ H Q q)⟩
theorem PGs.imp {X : Cx} {e : List Expr} {t t' : TGs} (h : PGs X e t) (k : ∀ v σ H Q, t' v σ H Q → t v σ H Q) : PGs X e t' := ⟨fun pins s σ H v u Q I r q => h.run pins s σ H v u Q I r (k v σ H Q q)⟩

section
variable {K : PySem.W.Frag} {W : WX} {p p' : Pt} {σ σ' : St} {σd σd' : SS} {l l' : LS} {H : Hp}
theorem LinkE.mono {E : EK} (h : LinkE K W p σ σd E) (e : Ext p p') : LinkE K W p' σ σd E := fun ex l' cls d p2 e2 r x q => h ex l' cls d p2 (e.trans e2) r x q
theorem EndsR.mono {D : Ends} {Dd : ED} (h : EndsR K W p D Dd) (e : Ext p p') : EndsR K W p' D Dd :=
  ⟨fun p2 a b c f => h.nx p2 a b c (e.trans f), fun p2 a b c f => h.bk p2 a b c (e.trans f), fun p2 a b c f => h.ct p2 a b c (e.trans f), fun p2 a b c f => h.rt p2 a b c (e.trans f), fun p2 a b c d f g x => h.ex p2 a b c d f g (e.trans x)⟩
theorem cE_ok {w : WE} {Q : VK} {Qd : P → LS → Prop} {Ed : EK} (R : Rel K p σ σd l) (hw : w σd l Qd Ed) (lk : LinkE K W p σ σd Ed)
    (k : ∀ d l' v p', Ext p p' → Rel K p' σ σd l' → RP K p' d v → Qd d l' → Q v p'.H) : cE K W w σ p.H Q := ⟨p, σd, l, Qd, Ed, rfl, R, hw, k, lk⟩
theorem cT_ok {w : WT} {Q : Bool → Hp → Prop} {Qd : Bool → LS → Prop} {Ed : EK} (R : Rel K p σ σd l) (hw : w σd l Qd Ed) (lk : LinkE K W p σ σd Ed)
    (k : ∀ b l' p', Ext p p' → Rel K p' σ σd l' → Qd b l' → Q b p'.H) : cT K W w σ p.H Q := ⟨p, σd, l, Qd, Ed, rfl, R, hw, k, lk⟩
theorem cA_ok {w : WA} {Q : List V → Hp → Prop} {Qd : List P → LS → Prop} {Ed : EK} (R : Rel K p σ σd l) (hw : w σd l Qd Ed) (lk : LinkE K W p σ σd Ed)
    (k : ∀ ds l' vs p', Ext p p' → Rel K p' σ σd l' → RPs K p' ds vs → Qd ds l' → Q vs p'.H) : cA K W w σ p.H Q := ⟨p, σd, l, Qd, Ed, rfl, R, hw, k, lk⟩
theorem cS_ok {w : WS} {D : Ends} {Dd : ED} (R : Rel K p σ σd l) (hw : w Dd σd l) (k : EndsR K W p D Dd) : cS K W w D σ p.H := ⟨p, σd, l, Dd, rfl, R, hw, k⟩
theorem cG_ok {w : WG} {d : P} {v : V} {Q : St → Hp → Prop} {Qd : SS → LS → Prop} (R : Rel K p σ σd l) (r : RP K p d v) (hw : w d σd l Qd)
    (k : ∀ p' σ' σd' l', Ext p p' → Rel K p' σ' σd' l' → Qd σd' l' → Q σ' p'.H) : cG K w v σ p.H Q := ⟨p, σd, l, d, Qd, rfl, R, r, hw, k⟩
theorem Rel.ext (R : Rel K p σ σd l) (e : Ext p p') (w : WF p') (c : Cells K p' l') : Rel K p' σ σd l' := ⟨w, R.sl.mono e, c⟩
theorem Rel.set (R : Rel K p σ σd l) {i : Nat} {d : P} {v : V} (r : RP K p d v) : Rel K p (σ.set i (some v)) (σd.set i (some d)) l := ⟨R.wf, R.sl.set r, R.ce⟩
theorem EndsR.link {D : Ends} {Dd : ED} (h : EndsR K W p D Dd) : LinkE K W p σ σd (fun ex l => Dd.ex ex σd l) := fun ex l' cls d p' e r x q => h.ex p' σ σd l' ex cls d e r x q

/-! ### what stands in a sequence -/
def seqOf (l : LS) : P → Option (List D)
  | .d (.tup xs) => some xs
  | .d (.lst xs) => some xs
  | .d (.scr xs) => some xs
  | .loc n => match l[n]? with
    | some (.lst xs) => some xs
    | some (.frz xs) => some xs
    | none => none
  | _ => none
theorem seqOf_ok {x : P} {v : V} {xs : List D} (ce : Cells K p l) (r : RP K p x v) (h : seqOf l x = some xs) : ∃ a vs, v = .ref a ∧ (SqL K p.H a vs ∨ SqT K p.H a vs) ∧ RDs K p xs vs := by
  cases x with
  | d x =>
    cases x with
    | tup ys =>
      cases h
      cases r with
      | tup h1 h2 => exact ⟨_, _, rfl, .inr h1.sq, h2⟩
    | lst ys =>
      cases h
      cases r with
      | lst h1 h2 => exact ⟨_, _, rfl, .inl (LstAt.sq (K := K) h1), h2⟩
    | scr ys =>
      cases h
      cases r with
      | scr h1 h2 => exact ⟨_, _, rfl, .inl h1.sq, h2⟩
    | non => cases h
    | bl _ => cases h
    | int _ => cases h
    | str _ => cases h
    | ty _ => cases h
    | obj _ _ _ => cases h
  | loc n =>
    obtain ⟨a, h1, rfl⟩ := r
    cases e : l[n]? with
    | none => simp [seqOf, e] at h
    | some c =>
      obtain ⟨b, h2, h3⟩ := ce.2 n c e
      rw [h1] at h2
      cases h2
      cases c with
      | lst ys =>
        simp [seqOf, e] at h
        subst h
        obtain ⟨_, vs, h4, h5⟩ := h3
        exact ⟨a, vs, rfl, .inl (.inl (.inl h4)), h5⟩
      | frz ys =>
        simp [seqOf, e] at h
        subst h
        obtain ⟨vs, h4, h5⟩ := h3
        exact ⟨a, vs, rfl, .inl (LstAt.sq (K := K) h4), h5⟩
  | exc _ _ _ _ => cases h
/-- a list, not a tuple; its object itself stands in the heap -/
def lstOf (l : LS) : P → Option (List D)
  | .d (.lst xs) => some xs
  | .loc n => match l[n]? with
    | some (.lst xs) => some xs
    | some (.frz xs) => some xs
    | none => none
  | _ => none
theorem lstOf_ok {x : P} {v : V} {xs : List D} (ce : Cells K p l) (r : RP K p x v) (h : lstOf l x = some xs) : ∃ a vs, v = .ref a ∧ p.H a = some (.lst vs) ∧ RDs K p xs vs := by
  cases x with
  | d x =>
    cases x with
    | lst ys =>
      cases h
      cases r with
      | lst h1 h2 => exact ⟨_, _, rfl, h1.2, h2⟩
    | tup _ => cases h
    | scr _ => cases h
    | non => cases h
    | bl _ => cases h
    | int _ => cases h
    | str _ => cases h
    | ty _ => cases h
    | obj _ _ _ => cases h
  | loc n =>
    obtain ⟨a, h1, rfl⟩ := r
    cases e : l[n]? with
    | none => simp [lstOf, e] at h
    | some c =>
      obtain ⟨b, h2, h3⟩ := ce.2 n c e
      rw [h1] at h2
      cases h2
      cases c with
      | lst ys =>
        simp [lstOf, e] at h
        subst h
        obtain ⟨_, vs, h4, h5⟩ := h3
        exact ⟨a, vs, rfl, h4, h5⟩
      | frz ys =>
        simp [lstOf, e] at h
        subst h
        obtain ⟨vs, h4, h5⟩ := h3
        exact ⟨a, vs, rfl, h4.2, h5⟩
  | exc _ _ _ _ => cases h
theorem lst_seq {x : P} {xs : List D} (h : lstOf l x = some xs) : seqOf l x = some xs := by
  cases x with
  | d x => cases x <;> first | (cases h; rfl) | cases h
  | loc n => exact h
  | exc _ _ _ _ => cases h
end

/-! ### operators by values -/
abbrev OD2 := P → P → LS → (P → LS → Prop) → Prop
abbrev OD1 := P → LS → (P → LS → Prop) → Prop
abbrev ODn := List P → LS → (P → LS → Prop) → Prop
abbrev ODm := P → List P → LS → (P → LS → Prop) → Prop
section
variable (K : PySem.W.Frag)
/-- what is wanted behind an operation at p -/
def After (p : Pt) (Qd : P → LS → Prop) (Q : VK) : Prop := ∀ d l' v p', Ext p p' → WF p' → Cells K p' l' → RP K p' d v → Qd d l' → Q v p'.H
def RefOp (r : R2) (rd : OD2) : Prop := ∀ (p : Pt) (l : LS) (x y : P) (vx vy : V) (Qd : P → LS → Prop) (Q : VK), WF p → Cells K p l → RP K p x vx → RP K p y vy → rd x y l Qd → After K p Qd Q → r vx vy p.H Q
def RefUn (r : V → Hp → VK → Prop) (rd : OD1) : Prop := ∀ (p : Pt) (l : LS) (x : P) (vx : V) (Qd : P → LS → Prop) (Q : VK), WF p → Cells K p l → RP K p x vx → rd x l Qd → After K p Qd Q → r vx p.H Q
def RefCall (r : List V → Hp → VK → Prop) (rd : ODn) : Prop := ∀ (p : Pt) (l : LS) (xs : List P) (vs : List V) (Qd : P → LS → Prop) (Q : VK), WF p → Cells K p l → RPs K p xs vs → rd xs l Qd → After K p Qd Q → r vs p.H Q
end
theorem After.same {K : PySem.W.Frag} {p : Pt} {Qd : P → LS → Prop} {Q : VK} (k : After K p Qd Q) (w : WF p) {l : LS} (c : Cells K p l) {d : P} {v : V} (r : RP K p d v) (q : Qd d l) : Q v p.H := k d l v p (Ext.refl p) w c r q

section
variable {X : Cx} {W : WX} {a b c e o : Expr} {es : List Expr} {wa wb wc we : WE} {wt wt' : WT} {ws : WA} {pos : Pos}
/-! ### names, constants -/
def wVar (i : Nat) (σ : SS) (l : LS) (Q : P → LS → Prop) (_ : EK) : Prop := match σ[i]? with
  | some (some d) => Q d l
  | _ => False
def wC (d : D) (_ : SS) (l : LS) (Q : P → LS → Prop) (_ : EK) : Prop := Q (.d d) l
theorem qe_var (i : Nat) {x : Str} (hN : X.N[i]? = some x := by rfl) (hv : Vis X.env.scope x := by first | exact Or.inl rfl | exact Or.inr (Or.inl rfl) | exact Or.inr (Or.inr rfl)) (hd : (x == ("__debug__" : Str)) = false := by decide)
    (hcd : (x == ("__classdict__" : Str)) = false := by decide) : QE X W (.Name x pos) (wVar i) := PE.imp (pe_var hN hv hd hcd) fun σ H Q ⟨p, σd, l, Qd, Ed, hH, R, hw, k, _⟩ => by
  subst hH
  unfold wVar at hw
  split at hw
  · rename_i d hd
    obtain ⟨v, h1, h2⟩ := R.sl.2 i d hd
    exact ⟨v, h1, k d l v p (Ext.refl p) R h2 hw⟩
  · exact hw.elim
theorem qe_const {v : V} {d : D} (h : PE X e (tC v)) (r : ∀ p, RD X.K p d v) : QE X W e (wC d) := PE.imp h fun σ H Q ⟨p, σd, l, Qd, Ed, hH, R, hw, k, _⟩ => by
  subst hH
  exact k (.d d) l v p (Ext.refl p) R (r p) hw
theorem qe_int {i j} : QE X W (.Constant (.int i) j pos) (wC (.int i)) := qe_const pe_int fun _ => .int i
theorem qe_bl {i j} : QE X W (.Constant (.bool i) j pos) (wC (.bl i)) := qe_const pe_bl fun _ => .bl i
theorem qe_non {j} : QE X W (.Constant .none j pos) (wC .non) := qe_const pe_non fun _ => .non
theorem qe_str {i j} : QE X W (.Constant (.str i) j pos) (wC (.str i)) := qe_const pe_str fun _ => .str i
/-- a constant of the module -/
theorem qe_glob {x : Str} {v : V} {d : D} (hg : Gl X x) (hm : ∃ u, X.mg x = some u ∧ RelV v u) (r : ∀ p, RD X.K p d v) (hd : (x == ("__debug__" : Str)) = false := by decide) : QE X W (.Name x pos) (wC d) := by
  obtain ⟨u, h1, h2⟩ := hm
  exact qe_const (pe_glob hg h1 h2 hd) r
/-- a built-in type as a value -/
theorem qe_type {x : Str} {n : String} (hg : Gl X x) (hm : X.mg x = none) (hv : bootBuiltins x = some (.type n)) (hn : x ≠ "__name__" := by decide) (hd : (x == ("__debug__" : Str)) = false := by decide) : QE X W (.Name x pos) (wC (.ty n)) :=
  qe_const (pe_bltn (v := .ty n) hg hm hv rfl hn hd) fun _ => .ty n

/-! ### operators -/
def kOp2 (rd : OD2) (x : P) (Q : P → LS → Prop) (y : P) (l : LS) : Prop := rd x y l Q
def kOp1 (rd : OD2) (wb : WE) (σ : SS) (Q : P → LS → Prop) (E : EK) (x : P) (l : LS) : Prop := wb σ l (kOp2 rd x Q) E
def wOp (rd : OD2) (wa wb : WE) (σ : SS) (l : LS) (Q : P → LS → Prop) (E : EK) : Prop := wa σ l (kOp1 rd wb σ Q E) E
def kUn (rd : OD1) (Q : P → LS → Prop) (x : P) (l : LS) : Prop := rd x l Q
def wUn (rd : OD1) (wa : WE) (σ : SS) (l : LS) (Q : P → LS → Prop) (E : EK) : Prop := wa σ l (kUn rd Q) E
theorem op_ok {r : R2} {rd : OD2} (hr : RefOp X.K r rd) {σ : St} {H : Hp} {Q : VK} (h : cE X.K W (wOp rd wa wb) σ H Q) : tOp r (cE X.K W wa) (cE X.K W wb) σ H Q := by
  obtain ⟨p, σd, l, Qd, Ed, hH, R, hw, k, lk⟩ := h
  subst hH
  exact cE_ok R hw lk fun x l1 vx p1 e1 R1 r1 q1 => cE_ok R1 q1 (lk.mono e1) fun y l2 vy p2 e2 R2 r2 q2 =>
    hr p2 l2 x y vx vy _ _ R2.wf R2.ce (r1.mono e2) r2 q2 fun d l' v p' e' w' c' r' q' => k d l' v p' ((e1.trans e2).trans e') (R2.ext e' w' c') r' q'
theorem qe_op {op : Operator} {r : R2} {rd : OD2} (ho : OpR X (binaryOp op) r) (hr : RefOp X.K r rd) (ha : QE X W a wa) (hb : QE X W b wb) : QE X W (.BinOp a op b pos) (wOp rd wa wb) :=
  PE.imp (pe_op ho ha hb) fun _ _ _ h => op_ok hr h
theorem qe_cmp {op : CmpOp} {r : R2} {rd : OD2} (ho : OpR X (compareOp op) r) (hr : RefOp X.K r rd) (ha : QE X W a wa) (hb : QE X W b wb) (hm : behindInMarks op b = false) : QE X W (.Compare a [op] [b] pos) (wOp rd wa wb) :=
  PE.imp (pe_cmpR ho ha hb hm) fun _ _ _ h => op_ok hr h
theorem qe_un {op : UnaryOp} {r : V → Hp → VK → Prop} {rd : OD1} (ho : UnR X (unaryOp op) r) (hr : RefUn X.K r rd) (ha : QE X W a wa) : QE X W (.UnaryOp op a pos) (wUn rd wa) :=
  PE.imp (pe_un ho ha) fun σ H Q h => by
    obtain ⟨p, σd, l, Qd, Ed, hH, R, hw, k, lk⟩ := h
    subst hH
    exact cE_ok R hw lk fun x l1 vx p1 e1 R1 r1 q1 => hr p1 l1 x vx _ _ R1.wf R1.ce r1 q1 fun d l' v p' e' w' c' r' q' => k d l' v p' (e1.trans e') (R1.ext e' w' c') r' q'
/-- a test that gives a bool -/
def isB (x : P) (l : LS) (Q : Bool → LS → Prop) : Prop := match x with
  | .d (.bl b) => Q b l
  | _ => False
theorem isB_ok {K : PySem.W.Frag} {p : Pt} {l : LS} {x : P} {v : V} {Q : Bool → LS → Prop} (r : RP K p x v) (h : isB x l Q) : ∃ b, v = .bl b ∧ Q b l := by
  cases x with
  | d x =>
    cases x with
    | bl b => cases r; exact ⟨b, rfl, h⟩
    | _ => cases h
  | loc _ => cases h
  | exc _ _ _ _ => cases h
def kB (Q : Bool → LS → Prop) (x : P) (l : LS) : Prop := isB x l Q
def wB (we : WE) (σ : SS) (l : LS) (Q : Bool → LS → Prop) (E : EK) : Prop := we σ l (kB Q) E
theorem qt_cmp {op : CmpOp} {r : R2} {rd : OD2} (ho : OpR X (compareOp op) r) (hr : RefOp X.K r rd) (ha : QE X W a wa) (hb : QE X W b wb) (hm : behindInMarks op b = false) : QT X W (.Compare a [op] [b] pos) (wB (wOp rd wa wb)) :=
  PT.imp (pt_cmpR ho ha hb hm) fun σ H Q h => by
    obtain ⟨p, σd, l, Qd, Ed, hH, R, hw, k, lk⟩ := h
    subst hH
    exact op_ok (X := X) (W := W) hr (cE_ok R hw lk fun x l1 v p1 e1 R1 r1 q1 => by
      obtain ⟨b, rfl, q⟩ := isB_ok r1 q1
      exact ⟨b, rfl, k b l1 p1 e1 R1 q⟩)
theorem qt_val (h : QE X W e we) (he : ∀ whole, isTrue e X.env whole = (do let v ← whole; standAt e.pos; holding [v] (truthy v)) := by intro _; rfl) : QT X W e (wB we) :=
  PT.imp (pt_val h he) fun σ H Q h => by
    obtain ⟨p, σd, l, Qd, Ed, hH, R, hw, k, lk⟩ := h
    subst hH
    exact cE_ok R hw lk fun x l1 v p1 e1 R1 r1 q1 => by
      obtain ⟨b, rfl, q⟩ := isB_ok r1 q1
      exact ⟨b, rfl, k b l1 p1 e1 R1 q⟩
/-- truth of a value -/
def truD (x : P) (l : LS) (Q : Bool → LS → Prop) : Prop := match seqOf l x with
  | some xs => Q (!xs.isEmpty) l
  | none => match x with
    | .d .non => Q false l
    | .d (.bl b) => Q b l
    | .d (.int i) => Q (i != 0) l
    | .d (.str y) => y.length ≤ sizeLine ∧ Q ((y.length : Int) != 0) l
    | _ => False
theorem RDs.emp {K : PySem.W.Frag} {p : Pt} : ∀ {xs : List D} {vs : List V}, RDs K p xs vs → xs.isEmpty = vs.isEmpty
  | _, _, .nil => rfl
  | _, _, .cons _ _ => rfl
def kTru (Q : Bool → LS → Prop) (x : P) (l : LS) : Prop := truD x l Q
def wTru (we : WE) (σ : SS) (l : LS) (Q : Bool → LS → Prop) (E : EK) : Prop := we σ l (kTru Q) E
theorem qt_truth (h : QE X W e we) (he : ∀ whole, isTrue e X.env whole = (do let v ← whole; standAt e.pos; holding [v] (truthy v)) := by intro _; rfl) : QT X W e (wTru we) :=
  PT.imp (pt_truth h he) fun σ H Q h => by
    obtain ⟨p, σd, l, Qd, Ed, hH, R, hw, k, lk⟩ := h
    subst hH
    exact cE_ok R hw lk fun x l1 v p1 e1 R1 r1 q1 => by
      unfold kTru truD at q1
      split at q1
      · rename_i xs hx
        obtain ⟨a, vs, rfl, hs, hr⟩ := seqOf_ok R1.ce r1 hx
        refine ⟨_, ?_, k _ _ _ e1 R1 q1⟩
        rw [hr.emp]
        rcases hs with hs | hs
        · exact .inl ⟨_, hs, rfl⟩
        · exact .inr (.inl ⟨_, hs, rfl⟩)
      · split at q1
        · cases r1; exact ⟨_, rfl, k _ _ _ e1 R1 q1⟩
        · cases r1; exact ⟨_, rfl, k _ _ _ e1 R1 q1⟩
        · cases r1; exact ⟨_, rfl, k _ _ _ e1 R1 q1⟩
        · cases r1; exact ⟨_, ⟨q1.1, rfl⟩, k _ _ _ e1 R1 q1.2⟩
        · exact q1.elim
def kNot (Q : Bool → LS → Prop) (b : Bool) (l : LS) : Prop := Q (!b) l
def wNot (w : WT) (σ : SS) (l : LS) (Q : Bool → LS → Prop) (E : EK) : Prop := w σ l (kNot Q) E
def kAnd (u : WT) (σ : SS) (Q : Bool → LS → Prop) (E : EK) (b : Bool) (l : LS) : Prop := if b = true then u σ l Q E else Q false l
def wAnd (w u : WT) (σ : SS) (l : LS) (Q : Bool → LS → Prop) (E : EK) : Prop := w σ l (kAnd u σ Q E) E
def kOr (u : WT) (σ : SS) (Q : Bool → LS → Prop) (E : EK) (b : Bool) (l : LS) : Prop := if b = true then Q true l else u σ l Q E
def wOr (w u : WT) (σ : SS) (l : LS) (Q : Bool → LS → Prop) (E : EK) : Prop := w σ l (kOr u σ Q E) E
theorem qt_not (ha : QT X W a wt) : QT X W (.UnaryOp .Not a pos) (wNot wt) := PT.imp (pt_not ha) fun σ H Q h => by
  obtain ⟨p, σd, l, Qd, Ed, hH, R, hw, k, lk⟩ := h
  subst hH
  exact cT_ok R hw lk fun b l1 p1 e1 R1 q1 => k _ l1 p1 e1 R1 q1
theorem QW.qt (h : QW X W e wt) : QT X W e wt := PW.pt h
theorem qw_and1 (ha : QT X W a wt) : QW X W (.BoolOp .And [a] pos) wt := pw_and1 ha
theorem qw_or1 (ha : QT X W a wt) : QW X W (.BoolOp .Or [a] pos) wt := pw_or1 ha
theorem qw_and (ha : QT X W a wt) (hb : QW X W (.BoolOp .And (b :: es) pos) wt') : QW X W (.BoolOp .And (a :: b :: es) pos) (wAnd wt wt') := PW.imp (pw_and ha hb) fun σ H Q h => by
  obtain ⟨p, σd, l, Qd, Ed, hH, R, hw, k, lk⟩ := h
  subst hH
  refine cT_ok R hw lk fun b l1 p1 e1 R1 q1 => ?_
  cases b with
  | true => exact iteT (cT_ok R1 q1 (lk.mono e1) fun b l2 p2 e2 R2 q2 => k _ l2 p2 (e1.trans e2) R2 q2)
  | false => exact iteF (k _ l1 p1 e1 R1 q1)
theorem qw_or (ha : QT X W a wt) (hb : QW X W (.BoolOp .Or (b :: es) pos) wt') : QW X W (.BoolOp .Or (a :: b :: es) pos) (wOr wt wt') := PW.imp (pw_or ha hb) fun σ H Q h => by
  obtain ⟨p, σd, l, Qd, Ed, hH, R, hw, k, lk⟩ := h
  subst hH
  refine cT_ok R hw lk fun b l1 p1 e1 R1 q1 => ?_
  cases b with
  | true => exact iteT (k _ l1 p1 e1 R1 q1)
  | false => exact iteF (cT_ok R1 q1 (lk.mono e1) fun b l2 p2 e2 R2 q2 => k _ l2 p2 (e1.trans e2) R2 q2)
/-- and, or as values: all but the last give bools -/
def kAndV (wb : WE) (σ : SS) (Q : P → LS → Prop) (E : EK) (b : Bool) (l : LS) : Prop := if b = true then wb σ l Q E else Q (.d (.bl false)) l
def wAndV (wa wb : WE) (σ : SS) (l : LS) (Q : P → LS → Prop) (E : EK) : Prop := wa σ l (kB (kAndV wb σ Q E)) E
def kOrV (wb : WE) (σ : SS) (Q : P → LS → Prop) (E : EK) (b : Bool) (l : LS) : Prop := if b = true then Q (.d (.bl true)) l else wb σ l Q E
def wOrV (wa wb : WE) (σ : SS) (l : LS) (Q : P → LS → Prop) (E : EK) : Prop := wa σ l (kB (kOrV wb σ Q E)) E
def kNotV (Q : P → LS → Prop) (b : Bool) (l : LS) : Prop := Q (.d (.bl (!b))) l
def wNotV (wa : WE) (σ : SS) (l : LS) (Q : P → LS → Prop) (E : EK) : Prop := wa σ l (kB (kNotV Q)) E
theorem qe_one {op : BoolOp} (ha : QE X W a wa) : QE X W (.BoolOp op [a] pos) wa := pe_one ha
theorem qe_and (ha : QE X W a wa) (hb : QE X W (.BoolOp .And (b :: es) pos) wb) : QE X W (.BoolOp .And (a :: b :: es) pos) (wAndV wa wb) := PE.imp (pe_and ha hb) fun σ H Q h => by
  obtain ⟨p, σd, l, Qd, Ed, hH, R, hw, k, lk⟩ := h
  subst hH
  refine cE_ok R hw lk fun x l1 v p1 e1 R1 r1 q1 => ?_
  obtain ⟨b, rfl, q⟩ := isB_ok r1 q1
  refine ⟨b, rfl, ?_⟩
  cases b with
  | true => exact iteT (cE_ok R1 q (lk.mono e1) fun y l2 v2 p2 e2 R2 r2 q2 => k _ l2 v2 p2 (e1.trans e2) R2 r2 q2)
  | false => exact iteF (k (.d (.bl _)) l1 _ p1 e1 R1 (RD.bl _) q)
theorem qe_or (ha : QE X W a wa) (hb : QE X W (.BoolOp .Or (b :: es) pos) wb) : QE X W (.BoolOp .Or (a :: b :: es) pos) (wOrV wa wb) := PE.imp (pe_or ha hb) fun σ H Q h => by
  obtain ⟨p, σd, l, Qd, Ed, hH, R, hw, k, lk⟩ := h
  subst hH
  refine cE_ok R hw lk fun x l1 v p1 e1 R1 r1 q1 => ?_
  obtain ⟨b, rfl, q⟩ := isB_ok r1 q1
  refine ⟨b, rfl, ?_⟩
  cases b with
  | true => exact iteT (k (.d (.bl _)) l1 _ p1 e1 R1 (RD.bl _) q)
  | false => exact iteF (cE_ok R1 q (lk.mono e1) fun y l2 v2 p2 e2 R2 r2 q2 => k _ l2 v2 p2 (e1.trans e2) R2 r2 q2)
theorem qe_not (ha : QE X W a wa) : QE X W (.UnaryOp .Not a pos) (wNotV wa) := PE.imp (pe_not ha) fun σ H Q h => by
  obtain ⟨p, σd, l, Qd, Ed, hH, R, hw, k, lk⟩ := h
  subst hH
  refine cE_ok R hw lk fun x l1 v p1 e1 R1 r1 q1 => ?_
  obtain ⟨b, rfl, q⟩ := isB_ok r1 q1
  exact ⟨b, rfl, k (.d (.bl _)) l1 _ p1 e1 R1 (RD.bl _) q⟩
def kIfE (wa wb : WE) (σ : SS) (Q : P → LS → Prop) (E : EK) (b : Bool) (l : LS) : Prop := if b = true then wa σ l Q E else wb σ l Q E
def wIfE (wt : WT) (wa wb : WE) (σ : SS) (l : LS) (Q : P → LS → Prop) (E : EK) : Prop := wt σ l (kIfE wa wb σ Q E) E
theorem qe_ifE (hc : QT X W c wt) (ha : QE X W a wa) (hb : QE X W b wb) : QE X W (.IfExp c a b pos) (wIfE wt wa wb) := PE.imp (pe_ifExp hc ha hb) fun σ H Q h => by
  obtain ⟨p, σd, l, Qd, Ed, hH, R, hw, k, lk⟩ := h
  subst hH
  refine cT_ok R hw lk fun b l1 p1 e1 R1 q1 => ?_
  cases b with
  | true => exact iteT (cE_ok R1 q1 (lk.mono e1) fun y l2 v2 p2 e2 R2 r2 q2 => k _ l2 v2 p2 (e1.trans e2) R2 r2 q2)
  | false => exact iteF (cE_ok R1 q1 (lk.mono e1) fun y l2 v2 p2 e2 R2 r2 q2 => k _ l2 v2 p2 (e1.trans e2) R2 r2 q2)
/-- a < b < c -/
def kCh3 (rd' : OD2) (wc : WE) (σ : SS) (y : P) (Q : P → LS → Prop) (E : EK) (b : Bool) (l : LS) : Prop := if b = true then wc σ l (kOp2 rd' y Q) E else Q (.d (.bl false)) l
def kCh2 (rd rd' : OD2) (wc : WE) (σ : SS) (x : P) (Q : P → LS → Prop) (E : EK) (y : P) (l : LS) : Prop := rd x y l (kB (kCh3 rd' wc σ y Q E))
def kCh1 (rd rd' : OD2) (wb wc : WE) (σ : SS) (Q : P → LS → Prop) (E : EK) (x : P) (l : LS) : Prop := wb σ l (kCh2 rd rd' wc σ x Q E) E
def wChain (rd rd' : OD2) (wa wb wc : WE) (σ : SS) (l : LS) (Q : P → LS → Prop) (E : EK) : Prop := wa σ l (kCh1 rd rd' wb wc σ Q E) E
theorem chain_ok {r r' : R2} {rd rd' : OD2} (hr : RefOp X.K r rd) (hr' : RefOp X.K r' rd') {σ : St} {H : Hp} {Q : VK} (h : cE X.K W (wChain rd rd' wa wb wc) σ H Q) : tChain r r' (cE X.K W wa) (cE X.K W wb) (cE X.K W wc) σ H Q := by
  obtain ⟨p, σd, l, Qd, Ed, hH, R, hw, k, lk⟩ := h
  subst hH
  refine cE_ok R hw lk fun x l1 vx p1 e1 R1 r1 q1 => cE_ok R1 q1 (lk.mono e1) fun y l2 vy p2 e2 R2 r2 q2 =>
    hr p2 l2 x y vx vy _ _ R2.wf R2.ce (r1.mono e2) r2 q2 fun d l3 v p3 e3 w3 c3 r3 q3 => ?_
  obtain ⟨b, rfl, q⟩ := isB_ok r3 q3
  have R3 := R2.ext e3 w3 c3
  refine ⟨b, rfl, ?_⟩
  cases b with
  | true => exact iteT (cE_ok R3 q (lk.mono ((e1.trans e2).trans e3)) fun z l4 vz p4 e4 R4 r4 q4 =>
      hr' p4 l4 y z vy vz _ _ R4.wf R4.ce (r2.mono (e3.trans e4)) r4 q4 fun d l5 v p5 e5 w5 c5 r5 q5 => k d l5 v p5 ((((e1.trans e2).trans e3).trans e4).trans e5) (R4.ext e5 w5 c5) r5 q5)
  | false => exact iteF (k (.d (.bl _)) l3 _ p3 ((e1.trans e2).trans e3) R3 (RD.bl _) q)
theorem qe_chain {op op' : CmpOp} {r r' : R2} {rd rd' : OD2} (ho : OpR X (compareOp op) r) (hr : RefOp X.K r rd) (ho' : OpR X (compareOp op') r') (hr' : RefOp X.K r' rd') (ha : QE X W a wa) (hb : QE X W b wb) (hc : QE X W c wc)
    (hm : lastMarks [op, op'] [b, c] = false := by with_unfolding_all rfl) : QE X W (.Compare a [op, op'] [b, c] pos) (wChain rd rd' wa wb wc) := PE.imp (pe_chain ho ho' ha hb hc hm) fun _ _ _ h => chain_ok hr hr' h
theorem qt_chain {op op' : CmpOp} {r r' : R2} {rd rd' : OD2} (ho : OpR X (compareOp op) r) (hr : RefOp X.K r rd) (ho' : OpR X (compareOp op') r') (hr' : RefOp X.K r' rd') (ha : QE X W a wa) (hb : QE X W b wb) (hc : QE X W c wc)
    (hm : lastMarks [op, op'] [b, c] = false := by with_unfolding_all rfl) : QT X W (.Compare a [op, op'] [b, c] pos) (wB (wChain rd rd' wa wb wc)) := PT.imp (pt_chain ho ho' ha hb hc hm) fun σ H Q h => by
  obtain ⟨p, σd, l, Qd, Ed, hH, R, hw, k, lk⟩ := h
  subst hH
  exact chain_ok (X := X) (W := W) hr hr' (cE_ok R hw lk fun x l1 v p1 e1 R1 r1 q1 => by
    obtain ⟨b, rfl, q⟩ := isB_ok r1 q1
    exact ⟨b, rfl, k b l1 p1 e1 R1 q⟩)

/-! ### arguments -/
def wNil (_ : SS) (l : LS) (Q : List P → LS → Prop) (_ : EK) : Prop := Q [] l
def kC2 (x : P) (Q : List P → LS → Prop) (xs : List P) (l : LS) : Prop := Q (x :: xs) l
def kC1 (ws : WA) (σ : SS) (Q : List P → LS → Prop) (E : EK) (x : P) (l : LS) : Prop := ws σ l (kC2 x Q) E
def wCons (we : WE) (ws : WA) (σ : SS) (l : LS) (Q : List P → LS → Prop) (E : EK) : Prop := we σ l (kC1 ws σ Q E) E
theorem qa_nil : QA X W [] wNil := PA.imp pa_nil fun σ H Q ⟨p, σd, l, Qd, Ed, hH, R, hw, k, lk⟩ => by
  subst hH
  exact k [] l [] p (Ext.refl p) R .nil hw
theorem qa_cons (ha : QE X W e we) (hr : QA X W es ws) (hs : starEach (e :: es) X.env = (false, eval e X.env) :: starEach es X.env := by rfl) : QA X W (e :: es) (wCons we ws) :=
  PA.imp (pa_cons ha hr hs) fun σ H Q ⟨p, σd, l, Qd, Ed, hH, R, hw, k, lk⟩ => by
    subst hH
    exact cE_ok R hw lk fun x l1 vx p1 e1 R1 r1 q1 => cA_ok R1 q1 (lk.mono e1) fun xs l2 vs p2 e2 R2 r2 q2 => k _ l2 _ p2 (e1.trans e2) R2 (.cons (r1.mono e2) r2) q2
/-- a call of a built-in by name -/
def kCB (rd : ODn) (Q : P → LS → Prop) (xs : List P) (l : LS) : Prop := rd xs l Q
def wCB (rd : ODn) (ws : WA) (σ : SS) (l : LS) (Q : P → LS → Prop) (E : EK) : Prop := ws σ l (kCB rd Q) E
theorem cb_ok {r : List V → Hp → VK → Prop} {rd : ODn} (hr : RefCall X.K r rd) {σ : St} {H : Hp} {Q : VK} (h : cE X.K W (wCB rd ws) σ H Q) : tCB r (cA X.K W ws) σ H Q := by
  obtain ⟨p, σd, l, Qd, Ed, hH, R, hw, k, lk⟩ := h
  subst hH
  exact cA_ok R hw lk fun xs l1 vs p1 e1 R1 r1 q1 => hr p1 l1 xs vs _ _ R1.wf R1.ce r1 q1 fun d l' v p' e' w' c' r' q' => k d l' v p' (e1.trans e') (R1.ext e' w' c') r' q'
theorem qe_callB {x : Str} {q : Pos} {id : String} {r : List V → Hp → VK → Prop} {rd : ODn} (hc : CallR X (.builtin id) r) (hr : RefCall X.K r rd) (hg : Gl X x) (hm : X.mg x = none) (hv : bootBuiltins x = some (.builtin id)) (ha : QA X W (e :: es) ws)
    (hn : x ≠ "__name__" := by decide) (hdb : (x == ("__debug__" : Str)) = false := by decide) (he : starEach (e :: es) X.env = (false, eval e X.env) :: starEach es X.env := by rfl) (hpl : (backTo pos (starEach es X.env)).any (·.1) = false := by rfl) :
    QE X W (.Call (.Name x q) (e :: es) [] pos) (wCB rd ws) := PE.imp (pe_callB hc hg hm hv ha hn hdb he hpl) fun _ _ _ h => cb_ok hr h
theorem qe_callTy {x : Str} {q : Pos} {T : String} {r : List V → Hp → VK → Prop} {rd : ODn} (hc : CallR X (.type T) r) (hr : RefCall X.K r rd) (hg : Gl X x) (hm : X.mg x = none) (hv : bootBuiltins x = some (.type T)) (ha : QA X W (e :: es) ws)
    (hn : x ≠ "__name__" := by decide) (hdb : (x == ("__debug__" : Str)) = false := by decide) (he : starEach (e :: es) X.env = (false, eval e X.env) :: starEach es X.env := by rfl) (hpl : (backTo pos (starEach es X.env)).any (·.1) = false := by rfl) :
    QE X W (.Call (.Name x q) (e :: es) [] pos) (wCB rd ws) := PE.imp (pe_callTy hc hg hm hv ha hn hdb he hpl) fun _ _ _ h => cb_ok hr h
end

/-! ### statements -/
section
variable {X : Cx} {W : WX} {st : Stmt} {rest : List Stmt} {w u : WS} {e : Expr} {we : WE} {wt : WT} {pos : Pos}
def wNext (D : ED) (σ : SS) (l : LS) : Prop := D.nx σ l
def wSeq (w u : WS) (D : ED) (σ : SS) (l : LS) : Prop := w { D with nx := u D } σ l
def exK (D : ED) (σ : SS) (ex : Ex) (l : LS) : Prop := D.ex ex σ l
theorem EndsR.thn {K : PySem.W.Frag} {p : Pt} {D : Ends} {Dd : ED} (k : EndsR K W p D Dd) : EndsR K W p { D with nx := cS K W u D } { Dd with nx := u Dd } :=
  ⟨fun p' σ' σd' l' e R q => cS_ok R q (k.mono e), k.bk, k.ct, k.rt, k.ex⟩
theorem qss_nil : QSs X W [] wNext := PSs.imp pss_nil fun D σ H ⟨p, σd, l, Dd, hH, R, hw, k⟩ => by
  subst hH
  exact k.nx p σ σd l (Ext.refl p) R hw
theorem qss_cons (h1 : QS X W st w) (h2 : QSs X W rest u) : QSs X W (st :: rest) (wSeq w u) := PSs.imp (pss_cons h1 h2) fun D σ H ⟨p, σd, l, Dd, hH, R, hw, k⟩ => by
  subst hH
  exact cS_ok R hw k.thn
theorem qss_one (h1 : QS X W st w) : QSs X W [st] w := pss_one h1
theorem qs_pass : QS X W (.Pass pos) wNext := PS.imp ps_pass fun D σ H ⟨p, σd, l, Dd, hH, R, hw, k⟩ => by
  subst hH
  exact k.nx p σ σd l (Ext.refl p) R hw
def wBreak (D : ED) (σ : SS) (l : LS) : Prop := D.bk σ l
def wCont (D : ED) (σ : SS) (l : LS) : Prop := D.ct σ l
theorem qs_break : QS X W (.Break pos) wBreak := PS.imp ps_break fun D σ H ⟨p, σd, l, Dd, hH, R, hw, k⟩ => by
  subst hH
  exact k.bk p σ σd l (Ext.refl p) R hw
theorem qs_continue : QS X W (.Continue pos) wCont := PS.imp ps_continue fun D σ H ⟨p, σd, l, Dd, hH, R, hw, k⟩ => by
  subst hH
  exact k.ct p σ σd l (Ext.refl p) R hw
theorem qs_doc {x j pos'} : QS X W (.Expr (.Constant (.str x) j pos) pos') wNext := PS.imp ps_doc fun D σ H ⟨p, σd, l, Dd, hH, R, hw, k⟩ => by
  subst hH
  exact k.nx p σ σd l (Ext.refl p) R hw
def kDrop (D : ED) (σ : SS) (_ : P) (l : LS) : Prop := D.nx σ l
def wDrop (we : WE) (D : ED) (σ : SS) (l : LS) : Prop := we σ l (kDrop D σ) (exK D σ)
theorem qs_expr (he : QE X W e we) (hs : swapsWith e none pos.line X.env = pure false := by rfl) : QS X W (.Expr e pos) (wDrop we) := PS.imp (ps_expr he hs) fun D σ H ⟨p, σd, l, Dd, hH, R, hw, k⟩ => by
  subst hH
  exact cE_ok R hw k.link fun x l1 v p1 e1 R1 r1 q1 => k.nx p1 σ σd l1 e1 R1 q1
def wRet (we : WE) (D : ED) (σ : SS) (l : LS) : Prop := we σ l D.rt (exK D σ)
theorem qs_ret (he : QE X W e we) : QS X W (.Return (some e) pos) (wRet we) := PS.imp (ps_ret he) fun D σ H ⟨p, σd, l, Dd, hH, R, hw, k⟩ => by
  subst hH
  exact cE_ok R hw k.link fun x l1 v p1 e1 R1 r1 q1 => k.rt p1 x v l1 e1 R1.wf R1.ce r1 q1
def wRetN (D : ED) (_ : SS) (l : LS) : Prop := D.rt (.d .non) l
theorem qs_retN : QS X W (.Return none pos) wRetN := PS.imp ps_retN fun D σ H ⟨p, σd, l, Dd, hH, R, hw, k⟩ => by
  subst hH
  exact k.rt p (.d .non) _ l (Ext.refl p) R.wf R.ce RD.non hw
def kIf (w u : WS) (D : ED) (σ : SS) (b : Bool) (l : LS) : Prop := if b = true then w D σ l else u D σ l
def wIf (wt : WT) (w u : WS) (D : ED) (σ : SS) (l : LS) : Prop := wt σ l (kIf w u D σ) (exK D σ)
theorem qs_if {c : Expr} {a b : List Stmt} (hc : QT X W c wt) (ha : QSs X W a w) (hb : QSs X W b u) : QS X W (.If c a b pos) (wIf wt w u) := PS.imp (ps_if hc ha hb) fun D σ H ⟨p, σd, l, Dd, hH, R, hw, k⟩ => by
  subst hH
  refine cT_ok R hw k.link fun b l1 p1 e1 R1 q1 => ?_
  cases b with
  | true => exact iteT (cS_ok R1 q1 (k.mono e1))
  | false => exact iteF (cS_ok R1 q1 (k.mono e1))
/-! ### targets -/
def gN (i : Nat) (d : P) (σ : SS) (l : LS) (Q : SS → LS → Prop) : Prop := Q (σ.set i (some d)) l
theorem qg_name {i : Nat} {x : Str} (hN : X.N.Nodup) (hi : X.N[i]? = some x) (hx : Loc X.env.scope x) (hf : X.fn x = true ∨ X.env.scope.names.lookup x = some .local := by first | exact .inl rfl | exact .inr rfl | assumption) : QG X (.Name x pos) (gN i) :=
  PG.imp (pg_name hN hi hx hf) fun v σ H Q ⟨p, σd, l, d, Qd, hH, R, r, hw, k⟩ => by
    subst hH
    exact k p _ _ l (Ext.refl p) (R.set r) hw
def gE (ds : List D) (σ : SS) (l : LS) (Q : SS → LS → Prop) : Prop := match ds with
  | [] => Q σ l
  | _ => False
def kG (gs : WGs) (ds : List D) (Q : SS → LS → Prop) (σ : SS) (l : LS) : Prop := gs ds σ l Q
def gC (g : WG) (gs : WGs) (ds : List D) (σ : SS) (l : LS) (Q : SS → LS → Prop) : Prop := match ds with
  | d :: ds => g (.d d) σ l (kG gs ds Q)
  | [] => False
theorem qgs_nil : QGs X [] gE := PGs.imp pgs_nil fun vs σ H Q ⟨p, σd, l, ds, Qd, hH, R, r, hw, k⟩ => by
  subst hH
  cases r with
  | nil => exact ⟨rfl, k p _ _ l (Ext.refl p) R hw⟩
  | cons _ _ => cases hw
theorem qgs_cons {es : List Expr} {g : WG} {gs : WGs} (h1 : QG X e g) (h2 : QGs X es gs) (hs : (assignEach (e :: es) X.env).map (·.2) = assign e X.env :: (assignEach es X.env).map (·.2) := by rfl) : QGs X (e :: es) (gC g gs) :=
  PGs.imp (pgs_cons h1 h2 hs) fun vs σ H Q ⟨p, σd, l, ds, Qd, hH, R, r, hw, k⟩ => by
    subst hH
    cases r with
    | nil => cases hw
    | cons h r => exact ⟨_, _, rfl, cG_ok R (d := .d _) h hw fun p1 σ1 σd1 l1 e1 R1 q1 => ⟨p1, σd1, l1, _, _, rfl, R1, r.mono e1.hf, q1, fun p2 σ2 σd2 l2 e2 R2 q2 => k p2 σ2 σd2 l2 (e1.trans e2) R2 q2⟩⟩
def gT (n : Nat) (gs : WGs) (d : P) (σ : SS) (l : LS) (Q : SS → LS → Prop) : Prop := match d with
  | .d (.tup ds) => ds.length = n ∧ gs ds σ l Q
  | _ => False
theorem qg_tup {es : List Expr} {k : Nat} {gs : WGs} {n : Nat} (hc : X.calm = true) (h : QGs X es gs) (hn : (assignEach es X.env).length = n := by rfl) (hst : (assignEach es X.env).findIdx? (·.1) = none := by rfl) : QG X (.Tuple es k pos) (gT n gs) :=
  PG.imp (pg_tup hc h hn hst) fun v σ H Q ⟨p, σd, l, d, Qd, hH, R, r, hw, k⟩ => by
    subst hH
    cases d with
    | d d =>
      cases d with
      | tup ds =>
        cases r with
        | tup h1 h2 => exact ⟨_, _, rfl, h1.sq, h2.len.symm.trans hw.1, p, σd, l, ds, Qd, rfl, R, h2, hw.2, k⟩
      | _ => cases hw
    | _ => cases hw
def kAsg (g : WG) (σ : SS) (D : ED) (x : P) (l : LS) : Prop := g x σ l D.nx
def wAsg (we : WE) (g : WG) (D : ED) (σ : SS) (l : LS) : Prop := we σ l (kAsg g σ D) (exK D σ)
theorem asg_ok {g : WG} {D : Ends} {σ : St} {H : Hp} (h : cS X.K W (wAsg we g) D σ H) : tAsg (cE X.K W we) (cG X.K g) D σ H := by
  obtain ⟨p, σd, l, Dd, hH, R, hw, k⟩ := h
  subst hH
  exact cE_ok R hw k.link fun x l1 v p1 e1 R1 r1 q1 => cG_ok R1 r1 q1 fun p2 σ2 σd2 l2 e2 R2 q2 => k.nx p2 σ2 σd2 l2 (e1.trans e2) R2 q2
theorem qs_asg {tg : Expr} {g : WG} (he : QE X W e we) (hg : QG X tg g) (hs : swapsWithSole [tg] e pos.line X.env = pure false := by rfl) (hw : swappedStores [tg] e X.env = pure none := by rfl)
    (h1 : (assignEach [tg] X.env).map (·.2) = [assign tg X.env] := by rfl) : QS X W (.Assign [tg] e pos) (wAsg we g) := PS.imp (ps_asg he hg hs hw h1) fun _ _ _ h => asg_ok h
theorem qs_set {i : Nat} {x : Str} {pos' : Pos} (hN : X.N.Nodup) (hi : X.N[i]? = some x) (hx : Loc X.env.scope x) (he : QE X W e we) (hs : swapsWith e (some (.Name x pos')) pos.line X.env = pure false := by rfl)
    (hf : X.fn x = true ∨ X.env.scope.names.lookup x = some .local := by first | exact .inl rfl | exact .inr rfl | assumption) : QS X W (.Assign [.Name x pos'] e pos) (wAsg we (gN i)) :=
  PS.imp (ps_set hN hi hx he hs hf) fun D σ H h => by
    obtain ⟨p, σd, l, Dd, hH, R, hw, k⟩ := h
    subst hH
    exact cE_ok R hw k.link fun x l1 v p1 e1 R1 r1 q1 => k.nx p1 _ _ l1 e1 (R1.set r1) q1
/-- x op= e of values that are never changed in place -/
def kAug2 (i : Nat) (D : ED) (σ : SS) (z : P) (l : LS) : Prop := D.nx (σ.set i (some z)) l
def kAug1 (i : Nat) (rd : OD2) (D : ED) (σ : SS) (x y : P) (l : LS) : Prop := rd x y l (kAug2 i D σ)
def wAug (i : Nat) (rd : OD2) (we : WE) (D : ED) (σ : SS) (l : LS) : Prop := match σ[i]? with
  | some (some x) => we σ l (kAug1 i rd D σ x) (exK D σ)
  | _ => False
theorem qs_aug {i : Nat} {x : Str} {op : Operator} {ti : TIp} {rd : OD2} {pos' : Pos} (hN : X.N.Nodup) (hi : X.N[i]? = some x) (hx : Loc X.env.scope x) (he : QE X W e we) (ho : PIp X op ti) (hr : RefOp X.K ti rd)
    (hf : X.fn x = true ∨ X.env.scope.names.lookup x = some .local := by first | exact .inl rfl | exact .inr rfl | assumption) : QS X W (.AugAssign (.Name x pos') op e pos) (wAug i rd we) :=
  PS.imp (ps_aug hN hi hx he ho hf) fun D σ H h => by
    obtain ⟨p, σd, l, Dd, hH, R, hw, k⟩ := h
    subst hH
    unfold wAug at hw
    split at hw
    · rename_i d hd
      obtain ⟨v, h1, h2⟩ := R.sl.2 i d hd
      exact ⟨v, h1, cE_ok R hw k.link fun y l1 vy p1 e1 R1 r1 q1 => hr p1 l1 d y v vy _ _ R1.wf R1.ce (h2.mono e1) r1 q1 fun d' l' v' p' e' w' c' r' q' => k.nx p' _ _ l' (e1.trans e') ((R1.ext e' w' c').set r') q'⟩
    · exact hw.elim
end
end QL
set_option Elab.async false
set_option linter.all false
set_option maxRecDepth 100000
set_option maxHeartbeats 4000000
/-! QL3: operators, built-ins, displays, subscripts, methods, over plain data. -/
namespace QL
open PySem L2

section
variable {K : PySem.W.Frag} {p : Pt} {l : LS}
theorem RPs.one {x : P} {vs : List V} (h : RPs K p [x] vs) : ∃ v, vs = [v] ∧ RP K p x v := by
  cases h with
  | cons r t => cases t; exact ⟨_, rfl, r⟩
theorem RPs.two {x y : P} {vs : List V} (h : RPs K p [x, y] vs) : ∃ v w, vs = [v, w] ∧ RP K p x v ∧ RP K p y w := by
  cases h with
  | cons r t =>
    obtain ⟨w, rfl, r2⟩ := RPs.one t
    exact ⟨_, w, rfl, r, r2⟩
/-- a new list, tuple -/
theorem After.newT {Qd : P → LS → Prop} {Q : VK} (k : After K p Qd Q) (w : WF p) (ce : Cells K p l) {xs : List D} {vs : List V} (r : RDs K p xs vs) (q : Qd (.d (.tup xs)) l) : ∀ a, p.H a = none → Q (.ref a) (upd p.H a (.tup vs)) := fun a ha =>
  k _ l _ (p.frz a (.tup vs)) (ext_frz ha) (wf_frz w) (Cells.frz w ce ha) (show RP K (p.frz a (.tup vs)) (.d (.tup xs)) (.ref a) from RD.tup (Or.inl ⟨Or.inr rfl, Or.inl upd_same⟩) (r.mono (ext_frz ha).hf)) q
theorem After.newL {Qd : P → LS → Prop} {Q : VK} (k : After K p Qd Q) (w : WF p) (ce : Cells K p l) {xs : List D} {vs : List V} (r : RDs K p xs vs) (q : Qd (.d (.lst xs)) l) : ∀ a, p.H a = none → Q (.ref a) (upd p.H a (.lst vs)) := fun a ha =>
  k _ l _ (p.frz a (.lst vs)) (ext_frz ha) (wf_frz w) (Cells.frz w ce ha) (show RP K (p.frz a (.lst vs)) (.d (.lst xs)) (.ref a) from RD.lst ⟨Or.inr rfl, upd_same⟩ (r.mono (ext_frz ha).hf)) q
/-- a new list that may change -/
theorem After.newC {Qd : P → LS → Prop} {Q : VK} (k : After K p Qd Q) (w : WF p) (ce : Cells K p l) {xs : List D} {vs : List V} (r : RDs K p xs vs) (q : Qd (.loc l.length) (l ++ [.lst xs])) : ∀ a, p.H a = none → Q (.ref a) (upd p.H a (.lst vs)) := fun a ha =>
  k (.loc l.length) (l ++ [.lst xs]) (.ref a) (p.new a (.lst vs)) (ext_new ha) (wf_new w ha) (Cells.new w ce ha (show CellOk K (p.new a (.lst vs)) (.lst xs) a from ⟨fun z => w.nF ha z, vs, upd_same, r.mono (ext_new ha).hf⟩))
    (show RP K (p.new a (.lst vs)) (.loc l.length) (.ref a) from ⟨a, by
      show (p.rho ++ [a])[l.length]? = some a
      rw [ce.1, List.getElem?_append_right (Nat.le_refl _)]
      simp, rfl⟩) q
/-- what becomes of a new list: it stays as it is, or it is a cell -/
inductive Fresh where | frz | cell
def freshL (f : Fresh) (xs : List D) (l : LS) (Q : P → LS → Prop) : Prop := match f with
  | .frz => Q (.d (.lst xs)) l
  | .cell => Q (.loc l.length) (l ++ [.lst xs])
theorem After.fresh {Qd : P → LS → Prop} {Q : VK} (k : After K p Qd Q) (w : WF p) (ce : Cells K p l) {xs : List D} {vs : List V} (r : RDs K p xs vs) (f : Fresh) (q : freshL f xs l Qd) : ∀ a, p.H a = none → Q (.ref a) (upd p.H a (.lst vs)) := by
  cases f with
  | frz => exact k.newL w ce r q
  | cell => exact k.newC w ce r q
/-- ints -/
theorem RDs.ints : ∀ {ns : List Int} {vs : List V}, RDs K p (ns.map .int) vs → vs = ns.map V.int
  | [], _, .nil => rfl
  | n :: ns, _, .cons h r => by
    cases h
    rw [RDs.ints r]
    rfl
theorem RDs.of_ints : ∀ ns : List Int, RDs K p (ns.map .int) (ns.map V.int)
  | [] => .nil
  | n :: ns => .cons (.int n) (RDs.of_ints ns)
theorem RDs.bls : ∀ {ns : List Bool} {vs : List V}, RDs K p (ns.map .bl) vs → vs = ns.map V.bl
  | [], _, .nil => rfl
  | n :: ns, _, .cons h r => by
    cases h
    rw [RDs.bls r]
    rfl
end

/-! ### operators -/
def oII (C : Int → Int → Prop) (g : Int → Int → Int) (x y : P) (l : LS) (Q : P → LS → Prop) : Prop := match x, y with
  | .d (.int i), .d (.int j) => C i j ∧ Q (.d (.int (g i j))) l
  | _, _ => False
def oI0 (g : Int → Int → Int) (x y : P) (l : LS) (Q : P → LS → Prop) : Prop := match x, y with
  | .d (.int i), .d (.int j) => Q (.d (.int (g i j))) l
  | _, _ => False
def oB0 (g : Int → Int → Bool) (x y : P) (l : LS) (Q : P → LS → Prop) : Prop := match x, y with
  | .d (.int i), .d (.int j) => Q (.d (.bl (g i j))) l
  | _, _ => False
section
variable {K : PySem.W.Frag}
theorem ref_II {C : Int → Int → Prop} {g : Int → Int → Int} : RefOp K (rI C fun i j => .int (g i j)) (oII C g) := fun p l x y vx vy Qd Q w ce rx ry h k => by
  unfold oII at h
  split at h
  · cases rx; cases ry
    exact ⟨_, _, rfl, rfl, h.1, k.same w ce (d := .d _) (RD.int _) h.2⟩
  · exact h.elim
theorem ref_I0 {g : Int → Int → Int} : RefOp K (rI0 fun i j => .int (g i j)) (oI0 g) := fun p l x y vx vy Qd Q w ce rx ry h k => by
  unfold oI0 at h
  split at h
  · cases rx; cases ry
    exact ⟨_, _, rfl, rfl, k.same w ce (d := .d _) (RD.int _) h⟩
  · exact h.elim
theorem ref_B0 {g : Int → Int → Bool} : RefOp K (rI0 fun i j => .bl (g i j)) (oB0 g) := fun p l x y vx vy Qd Q w ce rx ry h k => by
  unfold oB0 at h
  split at h
  · cases rx; cases ry
    exact ⟨_, _, rfl, rfl, k.same w ce (d := .d _) (RD.bl _) h⟩
  · exact h.elim
theorem ref_ip {g : Int → Int → Int} : RefOp K (ipI g) (oI0 g) := fun p l x y vx vy Qd Q w ce rx ry h k => by
  unfold oI0 at h
  split at h
  · cases rx; cases ry
    exact ⟨_, _, rfl, rfl, k.same w ce (d := .d _) (RD.int _) h⟩
  · exact h.elim
def oU (g : Int → Int) (x : P) (l : LS) (Q : P → LS → Prop) : Prop := match x with
  | .d (.int i) => Q (.d (.int (g i))) l
  | _ => False
theorem ref_U {g : Int → Int} : RefUn K (rU fun i => .int (g i)) (oU g) := fun p l x vx Qd Q w ce rx h k => by
  unfold oU at h
  split at h
  · cases rx
    exact ⟨_, rfl, k.same w ce (d := .d _) (RD.int _) h⟩
  · exact h.elim
/-- is None -/
def isNon : P → Bool
  | .d .non => true
  | _ => false
theorem isNon_ok {p : Pt} {x : P} {v : V} (r : RP K p x v) : decide (v = .non) = isNon x := by
  cases x with
  | d x => cases x <;> cases r <;> simp [isNon]
  | loc _ => obtain ⟨a, _, rfl⟩ := r; simp [isNon]
  | exc _ _ _ _ => obtain ⟨rfl, _⟩ := r; simp [isNon]
def oIs (neg : Bool) (x y : P) (l : LS) (Q : P → LS → Prop) : Prop := match y with
  | .d .non => Q (.d (.bl (if neg then !isNon x else isNon x))) l
  | _ => False
theorem ref_isN : RefOp K (fun x y H Q => y = .non ∧ Q (.bl (decide (x = .non))) H) (oIs false) := fun p l x y vx vy Qd Q w ce rx ry h k => by
  unfold oIs at h
  split at h
  · cases ry
    exact ⟨rfl, k.same w ce (d := .d _) (by rw [isNon_ok rx]; exact RD.bl _) h⟩
  · exact h.elim
theorem ref_notN : RefOp K (fun x y H Q => y = .non ∧ Q (.bl (!decide (x = .non))) H) (oIs true) := fun p l x y vx vy Qd Q w ce rx ry h k => by
  unfold oIs at h
  split at h
  · cases ry
    exact ⟨rfl, k.same w ce (d := .d _) (by rw [isNon_ok rx]; exact RD.bl _) h⟩
  · exact h.elim

/-! ### == of data -/
mutual
def D.py : D → PyData
  | .non => .none
  | .bl b => .bool b
  | .int i => .int i
  | .str x => .str x
  | .tup xs => .tuple (D.pys xs)
  | .lst xs => .list (D.pys xs)
  | .scr xs => .list (D.pys xs)
  | .ty _ => .none
  | .obj _ _ _ => .none
def D.pys : List D → List PyData
  | [] => []
  | x :: xs => x.py :: D.pys xs
end
/-- data no deeper than n -/
def dOk : Nat → D → Prop
  | _, .non => True
  | _, .bl _ => True
  | _, .int _ => True
  | _, .str x => PyData.strOk x = true
  | n + 1, .tup xs => ∀ x ∈ xs, dOk n x
  | n + 1, .lst xs => ∀ x ∈ xs, dOk n x
  | _, _ => False
def D.eqv (a b : D) : Bool := PyData.eqv a.py b.py
theorem dOk_tup {n : Nat} {xs : List D} : dOk (n + 1) (.tup xs) ↔ ∀ x ∈ xs, dOk n x := by simp only [dOk]
theorem dOk_lst {n : Nat} {xs : List D} : dOk (n + 1) (.lst xs) ↔ ∀ x ∈ xs, dOk n x := by simp only [dOk]
mutual
theorem dOk_sh : ∀ (x : D) (n : Nat), dOk n x → x.py.canLay0 = true ∧ x.py.depth ≤ n
  | .non, n, _ => by simp [D.py, PyData.canLay0, PyData.depth]
  | .bl _, n, _ => by simp [D.py, PyData.canLay0, PyData.depth]
  | .int _, n, _ => by simp [D.py, PyData.canLay0, PyData.depth]
  | .str x, n, h => by
    have h' : PyData.strOk x = true := by cases n <;> exact h
    simp [D.py, PyData.canLay0, PyData.depth, h']
  | .ty _, n, h => by cases n <;> exact h.elim
  | .scr _, n, h => by cases n <;> exact h.elim
  | .obj _ _ _, n, h => by cases n <;> exact h.elim
  | .tup xs, 0, h => h.elim
  | .lst xs, 0, h => h.elim
  | .tup xs, n + 1, h => by
    have q := dOks_sh xs n h
    simp only [D.py, PyData.canLay0, PyData.depth]
    exact ⟨q.1, by omega⟩
  | .lst xs, n + 1, h => by
    have q := dOks_sh xs n h
    simp only [D.py, PyData.canLay0, PyData.depth]
    exact ⟨q.1, by omega⟩
theorem dOks_sh : ∀ (xs : List D) (n : Nat), (∀ x ∈ xs, dOk n x) → PyData.canLayAll0 (D.pys xs) = true ∧ PyData.depthAll (D.pys xs) ≤ n
  | [], n, _ => by simp [D.pys, PyData.canLayAll0, PyData.depthAll]
  | x :: xs, n, h => by
    have h1 := dOk_sh x n (h x List.mem_cons_self)
    have h2 := dOks_sh xs n fun y hy => h y (List.mem_cons_of_mem _ hy)
    simp only [D.pys, PyData.canLayAll0, PyData.depthAll, h1.1, h2.1, Bool.and_self, true_and]
    omega
end
theorem dOk_shaped {x : D} {n : Nat} (h : dOk n x) (hn : n ≤ 64 := by decide) : SeqAt.shaped x.py = true := by
  obtain ⟨h1, h2⟩ := dOk_sh x n h
  simp only [SeqAt.shaped, h1, Bool.true_and, decide_eq_true_eq]
  omega
mutual
theorem RD.dp {p : Pt} : ∀ {x : D} {v : V} {n : Nat}, RD K p x v → dOk n x → Dp K p.H v x.py
  | _, _, _, .non, _ => .non
  | _, _, _, .bl b, _ => .bl b
  | _, _, _, .int i, _ => .int i
  | _, _, _, .str x, _ => .str x
  | _, _, n, .ty _, h => by cases n <;> exact h.elim
  | _, _, n, .scr _ _, h => by cases n <;> exact h.elim
  | _, _, n, .obj _ _ _, h => by cases n <;> exact h.elim
  | _, _, 0, .tup _ _, h => h.elim
  | _, _, 0, .lst _ _, h => h.elim
  | _, _, n + 1, .tup h1 h2, h => .tup h1.sq (RDs.dp h2 h)
  | _, _, n + 1, .lst h1 h2, h => .lst (LstAt.sq (K := K) h1) (RDs.dp h2 h)
theorem RDs.dp {p : Pt} : ∀ {xs : List D} {vs : List V} {n : Nat}, RDs K p xs vs → (∀ x ∈ xs, dOk n x) → DpAll K p.H vs (D.pys xs)
  | _, _, _, .nil, _ => .nil
  | _, _, _, .cons h1 h2, h => .cons (RD.dp h1 (h _ List.mem_cons_self)) (RDs.dp h2 fun y hy => h y (List.mem_cons_of_mem _ hy))
end
/-- a value as data -/
def snap (l : LS) : P → Option D
  | .d x => some x
  | .loc n => match l[n]? with
    | some (.lst xs) => some (.lst xs)
    | some (.frz xs) => some (.lst xs)
    | none => none
  | _ => none
theorem snap_ok {p : Pt} {l : LS} {x : P} {v : V} {d : D} {n : Nat} (ce : Cells K p l) (r : RP K p x v) (h : snap l x = some d) (o : dOk n d) : Dp K p.H v d.py := by
  cases x with
  | d x =>
    cases h
    exact RD.dp r o
  | loc m =>
    obtain ⟨a, h1, rfl⟩ := r
    cases e : l[m]? with
    | none => simp [snap, e] at h
    | some c =>
      obtain ⟨b, h2, h3⟩ := ce.2 m c e
      rw [h1] at h2
      cases h2
      cases c with
      | lst ys =>
        simp [snap, e] at h
        subst h
        obtain ⟨_, vs, h4, h5⟩ := h3
        cases n with
        | zero => exact o.elim
        | succ n => exact .lst (.inl (.inl h4)) (RDs.dp h5 o)
      | frz ys =>
        simp [snap, e] at h
        subst h
        obtain ⟨vs, h4, h5⟩ := h3
        cases n with
        | zero => exact o.elim
        | succ n => exact .lst (LstAt.sq (K := K) h4) (RDs.dp h5 o)
  | exc _ _ _ _ => cases h
def oEq (neg : Bool) (x y : P) (l : LS) (Q : P → LS → Prop) : Prop := match snap l x, snap l y with
  | some a, some b => dOk 60 a ∧ dOk 60 b ∧ Q (.d (.bl (if neg then !D.eqv a b else D.eqv a b))) l
  | _, _ => False
theorem ref_eq : RefOp K (rEqD K) (oEq false) := fun p l x y vx vy Qd Q w ce rx ry h k => by
  unfold oEq at h
  split at h
  · rename_i a b ha hb
    exact ⟨_, _, snap_ok ce rx ha h.1, snap_ok ce ry hb h.2.1, dOk_shaped h.1, dOk_shaped h.2.1, k.same w ce (d := .d _) (RD.bl _) h.2.2⟩
  · exact h.elim
theorem ref_ne : RefOp K (rNeD K) (oEq true) := fun p l x y vx vy Qd Q w ce rx ry h k => by
  unfold oEq at h
  split at h
  · rename_i a b ha hb
    exact ⟨_, _, snap_ok ce rx ha h.1, snap_ok ce ry hb h.2.1, dOk_shaped h.1, dOk_shaped h.2.1, k.same w ce (d := .d _) (RD.bl _) h.2.2⟩
  · exact h.elim
/-! what eqv says -/
/-- no True, no False -/
def noB : D → Prop
  | .bl _ => False
  | .tup xs => ∀ x ∈ xs, noB x
  | .lst xs => ∀ x ∈ xs, noB x
  | .scr _ => False
  | .ty _ => False
  | .obj _ _ _ => False
  | _ => True
mutual
theorem eqv_of : ∀ (a b : D), noB a → noB b → (PyData.eqv a.py b.py = true ↔ a = b)
  | .non, b, _, hb => by cases b <;> simp_all [D.py, PyData.eqv, noB]
  | .int i, b, _, hb => by cases b <;> simp_all [D.py, PyData.eqv, noB]
  | .str i, b, _, hb => by cases b <;> simp_all [D.py, PyData.eqv, noB]
  | .tup xs, b, ha, hb => by
    cases b with
    | tup ys =>
      simp only [noB] at ha hb
      simp only [D.py, PyData.eqv, D.tup.injEq]
      exact eqvs_of xs ys ha hb
    | _ => simp_all [D.py, PyData.eqv, noB]
  | .lst xs, b, ha, hb => by
    cases b with
    | lst ys =>
      simp only [noB] at ha hb
      simp only [D.py, PyData.eqv, D.lst.injEq]
      exact eqvs_of xs ys ha hb
    | _ => simp_all [D.py, PyData.eqv, noB]
  | .bl _, _, ha, _ => by simp [noB] at ha
  | .scr _, _, ha, _ => by simp [noB] at ha
  | .ty _, _, ha, _ => by simp [noB] at ha
  | .obj _ _ _, _, ha, _ => by simp [noB] at ha
theorem eqvs_of : ∀ (as bs : List D), (∀ x ∈ as, noB x) → (∀ x ∈ bs, noB x) → (PyData.eqvAll (D.pys as) (D.pys bs) = true ↔ as = bs)
  | [], [], _, _ => by simp [D.pys, PyData.eqvAll]
  | [], _ :: _, _, _ => by simp [D.pys, PyData.eqvAll]
  | _ :: _, [], _, _ => by simp [D.pys, PyData.eqvAll]
  | a :: as, b :: bs, ha, hb => by
    simp only [D.pys, PyData.eqvAll, Bool.and_eq_true, List.cons.injEq]
    rw [eqv_of a b (ha a List.mem_cons_self) (hb b List.mem_cons_self), eqvs_of as bs (fun x hx => ha x (List.mem_cons_of_mem _ hx)) (fun x hx => hb x (List.mem_cons_of_mem _ hx))]
end
theorem D.eqv_iff {a b : D} (ha : noB a) (hb : noB b) : D.eqv a b = true ↔ a = b := eqv_of a b ha hb
theorem D.eqv_self {a : D} (ha : noB a) : D.eqv a a = true := (eqv_of a a ha ha).mpr rfl
@[simp] theorem D.eqv_int (i j : Int) : D.eqv (.int i) (.int j) = decide (i = j) := by
  by_cases h : i = j <;> simp [D.eqv, D.py, PyData.eqv, h]
@[simp] theorem D.eqv_bl (i j : Bool) : D.eqv (.bl i) (.bl j) = (i == j) := by simp [D.eqv, D.py, PyData.eqv]
@[simp] theorem D.eqv_str (i j : Str) : D.eqv (.str i) (.str j) = (i == j) := by simp [D.eqv, D.py, PyData.eqv]
@[simp] theorem D.eqv_non : D.eqv .non .non = true := by simp [D.eqv, D.py, PyData.eqv]
end
end QL
set_option Elab.async false
set_option linter.all false
set_option maxRecDepth 100000
set_option maxHeartbeats 4000000
/-! QL4: sequences, built-ins, methods. -/
namespace QL
open PySem L2

section
variable {K : PySem.W.Frag} {p : Pt} {l : LS}
/-! ### in, not in: flat things -/
def flatD : D → Bool
  | .non => true
  | .bl _ => true
  | .int _ => true
  | .str _ => true
  | _ => false
theorem flat_ok {x : D} {v : V} (r : RD K p x v) (f : flatD x = true) : flatV v = true ∧ ∀ y u, RD K p y u → flatD y = true → eqV u v = D.eqv y x := by
  cases r with
  | non => exact ⟨rfl, fun y u r f => by cases r <;> simp_all [eqV, D.eqv, D.py, PyData.eqv, flatD]⟩
  | bl b => exact ⟨rfl, fun y u r f => by cases r <;> simp_all [eqV, D.eqv, D.py, PyData.eqv, flatD]⟩
  | int i => exact ⟨rfl, fun y u r f => by cases r <;> simp_all [eqV, D.eqv, D.py, PyData.eqv, flatD]⟩
  | str i => exact ⟨rfl, fun y u r f => by cases r <;> simp_all [eqV, D.eqv, D.py, PyData.eqv, flatD]⟩
  | ty _ => cases f
  | tup _ _ => cases f
  | lst _ _ => cases f
  | scr _ _ => cases f
  | obj _ _ _ => cases f
theorem flats_ok {x : D} {v : V} (r : RD K p x v) (f : flatD x = true) : ∀ {ys : List D} {vs : List V}, RDs K p ys vs → ys.all flatD = true → vs.all flatV = true ∧ inV v vs = ys.any fun y => D.eqv y x
  | _, _, .nil, _ => ⟨rfl, rfl⟩
  | y :: ys, u :: us, .cons h t, g => by
    simp only [List.all_cons, Bool.and_eq_true] at g
    have ih := flats_ok r f t g.2
    have h1 := (flat_ok r f).2 y u h g.1
    refine ⟨by simp [(flat_ok h g.1).1, ih.1], ?_⟩
    have ih2 := ih.2
    unfold inV at ih2 ⊢
    rw [List.any_cons, List.any_cons, h1, ih2]
def oIn (neg : Bool) (x y : P) (l : LS) (Q : P → LS → Prop) : Prop := match x, seqOf l y with
  | .d a, some ys => flatD a = true ∧ ys.all flatD = true ∧ Q (.d (.bl (if neg then !(ys.any fun z => D.eqv z a) else ys.any fun z => D.eqv z a))) l
  | _, _ => False
theorem ref_in {neg : Bool} : RefOp K (rIn K neg) (oIn neg) := fun p l x y vx vy Qd Q w ce rx ry h k => by
  unfold oIn at h
  split at h
  · rename_i a ys hy
    obtain ⟨b, vs, rfl, hs, hr⟩ := seqOf_ok ce ry hy
    have hh := flats_ok (p := p) rx h.1 hr h.2.1
    refine ⟨b, vs, rfl, hs, (flat_ok (p := p) rx h.1).1, hh.1, ?_⟩
    rw [hh.2]
    exact k.same w ce (d := .d _) (RD.bl _) h.2.2
  · exact h.elim

/-! ### joining -/
def oCat (f : Fresh) (x y : P) (l : LS) (Q : P → LS → Prop) : Prop := match lstOf l x, lstOf l y with
  | some a, some b => a.length + b.length ≤ sizeLine ∧ freshL f (a ++ b) l Q
  | _, _ => False
theorem ref_cat {f : Fresh} : RefOp K rCat (oCat f) := fun p l x y vx vy Qd Q w ce rx ry h k => by
  unfold oCat at h
  split at h
  · rename_i xs ys hx hy
    obtain ⟨a, vs, rfl, ha, ra⟩ := lstOf_ok ce rx hx
    obtain ⟨b, ws, rfl, hb, rb⟩ := lstOf_ok ce ry hy
    refine ⟨a, b, vs, ws, rfl, rfl, ha, hb, by rw [← ra.len, ← rb.len]; exact h.1, k.fresh w ce (ra.append rb) f h.2⟩
  · exact h.elim
def oCatT (x y : P) (l : LS) (Q : P → LS → Prop) : Prop := match x, y with
  | .d (.tup a), .d (.tup b) => a.length + b.length ≤ sizeLine ∧ Q (.d (.tup (a ++ b))) l
  | _, _ => False
theorem ref_catT : RefOp K (rCatA K) oCatT := fun p l x y vx vy Qd Q w ce rx ry h k => by
  unfold oCatT at h
  split at h
  · rename_i xs ys
    cases rx with
    | tup h1 r1 =>
      cases ry with
      | tup h2 r2 =>
        refine ⟨_, _, _, _, rfl, rfl, h1.sq, h2.sq, by rw [← r1.len, ← r2.len]; exact h.1, fun e => ?_, fun _ e => ?_, fun _ _ => k.newT w ce (r1.append r2) h.2⟩
        · subst e
          cases r1
          exact k.same w ce (d := .d _) (RD.tup h2 r2) h.2
        · subst e
          cases r2
          have q := h.2
          rw [List.append_nil] at q
          exact k.same w ce (d := .d _) (RD.tup h1 r1) q
  · exact h.elim
def oCatS (x y : P) (l : LS) (Q : P → LS → Prop) : Prop := match x, y with
  | .d (.str a), .d (.str b) => a.length + b.length ≤ sizeLine ∧ Q (.d (.str (a ++ b))) l
  | _, _ => False
theorem ref_catS : RefOp K (fun x y H Q => ∃ i j, x = .str i ∧ y = .str j ∧ i.length + j.length ≤ sizeLine ∧ Q (.str (i ++ j)) H) oCatS := fun p l x y vx vy Qd Q w ce rx ry h k => by
  unfold oCatS at h
  split at h
  · cases rx; cases ry
    exact ⟨_, _, rfl, rfl, h.1, k.same w ce (d := .d _) (RD.str _) h.2⟩
  · exact h.elim
/-! ### subscripts -/
theorem RDs.atI {xs : List D} {vs : List V} {i : Int} {x : D} (r : RDs K p xs vs) (e : atI xs i = some x) : ∃ v, atI vs i = some v ∧ RD K p x v := by
  unfold L2.atI at e ⊢
  rw [← r.len]
  cases q : ixN xs.length i with
  | none => rw [q] at e; cases e
  | some j =>
    rw [q] at e
    exact r.get e
def oIx (x y : P) (l : LS) (Q : P → LS → Prop) : Prop := match y with
  | .d (.int i) => match seqOf l x with
    | some xs => ∃ v, atI xs i = some v ∧ Q (.d v) l
    | none => match x with
      | .d (.str z) => z.length ≤ sizeLine ∧ ∃ c, atI z.cps.toList i = some c ∧ Q (.d (.str ⟨#[c]⟩)) l
      | _ => False
  | _ => False
theorem ref_ix : RefOp K (rIx K) oIx := fun p l x y vx vy Qd Q w ce rx ry h k => by
  unfold oIx at h
  split at h
  · rename_i i
    cases ry
    split at h
    · rename_i xs hx
      obtain ⟨a, vs, rfl, hs, hr⟩ := seqOf_ok ce rx hx
      obtain ⟨d, h1, h2⟩ := h
      obtain ⟨v, h3, h4⟩ := hr.atI h1
      have q := k.same w ce (d := .d d) h4 h2
      rcases hs with hs | hs
      · exact .inl ⟨a, vs, i, v, rfl, rfl, hs, h3, q⟩
      · exact .inr (.inl ⟨a, vs, i, v, rfl, rfl, hs, h3, q⟩)
    · split at h
      · cases rx
        obtain ⟨hz, c, h1, h2⟩ := h
        exact .inr (.inr ⟨_, i, c, rfl, rfl, hz, h1, k.same w ce (d := .d _) (RD.str _) h2⟩)
      · exact h.elim
  · exact h.elim
end
section
variable {X : Cx} {W : WX} {a b e o : Expr} {es : List Expr} {wa wb we wo : WE} {ws : WA} {pos : Pos}
theorem qe_ix (ha : QE X W a wa) (hb : QE X W b wb) (hs : PlainIx b) : QE X W (.Subscript a b pos) (wOp oIx wa wb) := PE.imp (pe_ix ix_seq ha hb hs) fun _ _ _ h => op_ok ref_ix h
/-! ### slices -/
abbrev WO := SS → LS → (Option Int → LS → Prop) → EK → Prop
def cO (K : PySem.W.Frag) (W : WX) (w : WO) : TO := fun σ H Q => ∃ (p : Pt) (σd : SS) (l : LS) (Qd : Option Int → LS → Prop) (Ed : EK), p.H = H ∧ Rel K p σ σd l ∧ w σd l Qd Ed ∧
  (∀ b l' p', Ext p p' → Rel K p' σ σd l' → Qd b l' → Q b p'.H) ∧ LinkE K W p σ σd Ed
def QO (X : Cx) (W : WX) (e : Option Expr) (w : WO) : Prop := PO X e (cO X.K W w)
theorem PO.imp {X : Cx} {e : Option Expr} {t t' : TO} (h : PO X e t) (k : ∀ σ H Q, t' σ H Q → t σ H Q) : PO X e t' := ⟨fun pins s σ H Q I q => h.run pins s σ H Q I (k σ H Q q)⟩
theorem cO_ok {K : PySem.W.Frag} {p : Pt} {σ : St} {σd : SS} {l : LS} {w : WO} {Q : Option Int → Hp → Prop} {Qd : Option Int → LS → Prop} {Ed : EK} (R : Rel K p σ σd l) (hw : w σd l Qd Ed) (lk : LinkE K W p σ σd Ed)
    (k : ∀ b l' p', Ext p p' → Rel K p' σ σd l' → Qd b l' → Q b p'.H) : cO K W w σ p.H Q := ⟨p, σd, l, Qd, Ed, rfl, R, hw, k, lk⟩
def wNoPart (_ : SS) (l : LS) (Q : Option Int → LS → Prop) (_ : EK) : Prop := Q none l
def kPart (Q : Option Int → LS → Prop) (x : P) (l : LS) : Prop := match x with
  | .d (.int i) => Q (some i) l
  | _ => False
def wPart (we : WE) (σ : SS) (l : LS) (Q : Option Int → LS → Prop) (E : EK) : Prop := we σ l (kPart Q) E
theorem qo_none : QO X W none wNoPart := PO.imp po_none fun σ H Q ⟨p, σd, l, Qd, Ed, hH, R, hw, k, lk⟩ => by
  subst hH
  exact k none l p (Ext.refl p) R hw
theorem qo_some (h : QE X W e we) : QO X W (some e) (wPart we) := PO.imp (po_some h) fun σ H Q ⟨p, σd, l, Qd, Ed, hH, R, hw, k, lk⟩ => by
  subst hH
  refine cE_ok R hw lk fun x l1 v p1 e1 R1 r1 q1 => ?_
  unfold kPart at q1
  split at q1
  · cases r1
    exact ⟨_, rfl, k _ l1 p1 e1 R1 q1⟩
  · exact q1.elim
def cutD {α : Type} (xs : List α) (lo hi : Option Int) : List α := (xs.drop (HT.sIx xs.length 0 lo)).take (HT.sIx xs.length xs.length hi - HT.sIx xs.length 0 lo)
theorem RDs.cut {K : PySem.W.Frag} {p : Pt} {xs : List D} {vs : List V} (r : RDs K p xs vs) (lo hi : Option Int) : RDs K p (cutD xs lo hi) (cutV vs lo hi) := by
  unfold cutD cutV
  rw [r.len]
  exact (r.drop _).take _
abbrev ODs := P → Option Int → Option Int → LS → (P → LS → Prop) → Prop
def RefSl (K : PySem.W.Frag) (r : V → Option Int → Option Int → Hp → VK → Prop) (rd : ODs) : Prop := ∀ (p : Pt) (l : LS) (x : P) (vx : V) (lo hi : Option Int) (Qd : P → LS → Prop) (Q : VK), WF p → Cells K p l → RP K p x vx → rd x lo hi l Qd → After K p Qd Q → r vx lo hi p.H Q
def kSl3 (rd : ODs) (x : P) (i : Option Int) (Q : P → LS → Prop) (j : Option Int) (l : LS) : Prop := rd x i j l Q
def kSl2 (rd : ODs) (wh : WO) (σ : SS) (x : P) (Q : P → LS → Prop) (E : EK) (i : Option Int) (l : LS) : Prop := wh σ l (kSl3 rd x i Q) E
def kSl1 (rd : ODs) (wl wh : WO) (σ : SS) (Q : P → LS → Prop) (E : EK) (x : P) (l : LS) : Prop := wl σ l (kSl2 rd wh σ x Q E) E
def wSl (rd : ODs) (we : WE) (wl wh : WO) (σ : SS) (l : LS) (Q : P → LS → Prop) (E : EK) : Prop := we σ l (kSl1 rd wl wh σ Q E) E
theorem qe_sl {r : V → Option Int → Option Int → Hp → VK → Prop} {rd : ODs} {lo hi : Option Expr} {wl wh : WO} {p2 : Pos} (hr : SlR X r) (rr : RefSl X.K r rd) (he : QE X W e we) (hl : QO X W lo wl) (hu : QO X W hi wh) : QE X W (.Subscript e (.Slice lo hi none p2) pos) (wSl rd we wl wh) :=
  PE.imp (pe_slice hr he hl hu) fun σ H Q ⟨p, σd, l, Qd, Ed, hH, R, hw, k, lk⟩ => by
    subst hH
    exact cE_ok R hw lk fun x l1 v p1 e1 R1 r1 q1 => cO_ok R1 q1 (lk.mono e1) fun i l2 p2 e2 R2 q2 => cO_ok R2 q2 (lk.mono (e1.trans e2)) fun j l3 p3 e3 R3 q3 =>
      rr p3 l3 x v i j _ _ R3.wf R3.ce (r1.mono (e2.trans e3)) q3 fun d l' v' p' e' w' c' r' q' => k d l' v' p' (((e1.trans e2).trans e3).trans e') (R3.ext e' w' c') r' q'
def oSlL (f : Fresh) (x : P) (lo hi : Option Int) (l : LS) (Q : P → LS → Prop) : Prop := match x with
  | .d (.tup _) => False
  | _ => match seqOf l x with
    | some xs => freshL f (cutD xs lo hi) l Q
    | none => False
theorem ref_slL {K : PySem.W.Frag} {f : Fresh} : RefSl K (rSlL K) (oSlL f) := fun p l x vx lo hi Qd Q w ce rx h k => by
  unfold oSlL at h
  split at h
  · exact h.elim
  · rename_i nt
    split at h
    · rename_i xs hx
      cases x with
      | d x =>
        cases x with
        | tup _ => exact absurd rfl (nt _)
        | lst ys =>
          cases hx
          cases rx with
          | lst h1 h2 => exact ⟨_, _, rfl, LstAt.sq (K := K) h1, k.fresh w ce (h2.cut lo hi) f h⟩
        | scr ys =>
          cases hx
          cases rx with
          | scr h1 h2 => exact ⟨_, _, rfl, h1.sq, k.fresh w ce (h2.cut lo hi) f h⟩
        | _ => cases hx
      | loc n =>
        obtain ⟨a, vs, rfl, h1, h2⟩ := lstOf_ok ce rx (show lstOf l (.loc n) = some xs from hx)
        exact ⟨_, _, rfl, .inl (.inl h1), k.fresh w ce (h2.cut lo hi) f h⟩
      | exc _ _ _ _ => cases hx
    · exact h.elim
def oSlT (x : P) (lo hi : Option Int) (l : LS) (Q : P → LS → Prop) : Prop := match x with
  | .d (.tup xs) => Q (.d (.tup (cutD xs lo hi))) l
  | _ => False
theorem ref_slT {K : PySem.W.Frag} : RefSl K (rSlA K) oSlT := fun p l x vx lo hi Qd Q w ce rx h k => by
  unfold oSlT at h
  split at h
  · rename_i xs
    cases rx with
    | tup h1 r1 =>
      refine ⟨_, _, rfl, h1.sq, fun e => ?_, fun _ => k.newT w ce (r1.cut lo hi) h⟩
      have e1 : cutD xs lo hi = xs := by
        unfold cutD
        rw [r1.len, e.1, e.2]
        simp [← r1.len]
      rw [e1] at h
      exact k.same w ce (d := .d _) (RD.tup h1 r1) h
  · exact h.elim
def oSlS (x : P) (lo hi : Option Int) (l : LS) (Q : P → LS → Prop) : Prop := match x with
  | .d (.str z) => z.length ≤ sizeLine ∧ Q (.d (.str (cutS z lo hi))) l
  | _ => False
theorem ref_slS {K : PySem.W.Frag} : RefSl K rSlS oSlS := fun p l x vx lo hi Qd Q w ce rx h k => by
  unfold oSlS at h
  split at h
  · cases rx
    exact ⟨_, rfl, h.1, k.same w ce (d := .d _) (RD.str _) h.2⟩
  · exact h.elim
/-! ### displays -/
def asDs : List P → Option (List D)
  | [] => some []
  | .d x :: r => (asDs r).map (x :: ·)
  | _ :: _ => none
theorem asDs_ok {K : PySem.W.Frag} {p : Pt} : ∀ {xs : List P} {vs : List V} {ds : List D}, RPs K p xs vs → asDs xs = some ds → RDs K p ds vs
  | [], _, _, .nil, h => by cases h; exact .nil
  | .d x :: r, _, ds, .cons h t, e => by
    simp only [asDs, Option.map_eq_some_iff] at e
    obtain ⟨ds', e1, rfl⟩ := e
    exact .cons h (asDs_ok t e1)
  | .loc _ :: _, _, _, _, e => by cases e
  | .exc _ _ _ _ :: _, _, _, _, e => by cases e
def kTupD (Q : P → LS → Prop) (xs : List P) (l : LS) : Prop := match asDs xs with
  | some ds => ds.length ≤ 1000 ∧ Q (.d (.tup ds)) l
  | none => False
def wTup (ws : WA) (σ : SS) (l : LS) (Q : P → LS → Prop) (E : EK) : Prop := ws σ l (kTupD Q) E
theorem qe_tup {x1} (h : QA X W es ws) : QE X W (.Tuple es x1 pos) (wTup ws) := PE.imp (pe_tup h) fun σ H Q ⟨p, σd, l, Qd, Ed, hH, R, hw, k, lk⟩ => by
  subst hH
  refine cA_ok R hw lk fun xs l1 vs p1 e1 R1 r1 q1 => ?_
  unfold kTupD at q1
  split at q1
  · rename_i ds hd
    have r := asDs_ok r1 hd
    refine ⟨by rw [← r.len]; exact Nat.le_trans q1.1 (by decide), After.newT (fun d l' v' p' e' w' c' r' q' => k d l' v' p' (e1.trans e') (R1.ext e' w' c') r' q') R1.wf R1.ce r q1.2⟩
  · exact q1.elim
def kLstD (f : Fresh) (Q : P → LS → Prop) (xs : List P) (l : LS) : Prop := match asDs xs with
  | some ds => ds.length ≤ 1000 ∧ freshL f ds l Q
  | none => False
def wLst (f : Fresh) (ws : WA) (σ : SS) (l : LS) (Q : P → LS → Prop) (E : EK) : Prop := ws σ l (kLstD f Q) E
theorem qe_lst {f : Fresh} (h : QA X W es ws) : QE X W (.List es pos) (wLst f ws) := PE.imp (pe_lst h) fun σ H Q ⟨p, σd, l, Qd, Ed, hH, R, hw, k, lk⟩ => by
  subst hH
  refine cA_ok R hw lk fun xs l1 vs p1 e1 R1 r1 q1 => ?_
  unfold kLstD at q1
  split at q1
  · rename_i ds hd
    have r := asDs_ok r1 hd
    refine ⟨by rw [← r.len]; exact Nat.le_trans q1.1 (by decide), After.fresh (fun d l' v' p' e' w' c' r' q' => k d l' v' p' (e1.trans e') (R1.ext e' w' c') r' q') R1.wf R1.ce r f q1.2⟩
  · exact q1.elim
/-- a cell that will not change any more -/
def kIce (Q : P → LS → Prop) (x : P) (l : LS) : Prop := match x with
  | .loc n => match l[n]? with
    | some (.lst xs) => Q (.d (.lst xs)) (l.set n (.frz xs))
    | some (.frz xs) => Q (.d (.lst xs)) l
    | none => False
  | x => Q x l
def wIce (we : WE) (σ : SS) (l : LS) (Q : P → LS → Prop) (E : EK) : Prop := we σ l (kIce Q) E
theorem qe_ice (h : QE X W e we) : QE X W e (wIce we) := PE.imp h fun σ H Q ⟨p, σd, l, Qd, Ed, hH, R, hw, k, lk⟩ => by
  subst hH
  refine cE_ok R hw lk fun x l1 v p1 e1 R1 r1 q1 => ?_
  cases x with
  | d x => exact k _ _ _ _ e1 R1 r1 q1
  | exc _ _ _ _ => exact k _ _ _ _ e1 R1 r1 q1
  | loc n =>
    obtain ⟨a, h1, rfl⟩ := r1
    unfold kIce at q1
    dsimp only at q1
    cases e : l1[n]? with
    | none => rw [e] at q1; exact q1.elim
    | some c =>
      rw [e] at q1
      cases c with
      | lst xs =>
        have q : Qd (.d (.lst xs)) (l1.set n (.frz xs)) := q1
        obtain ⟨c1, r2⟩ := Cells.ice R1.wf R1.ce h1 e
        have hr := List.mem_of_getElem? h1
        exact k (.d (.lst xs)) _ _ (p1.ice a) (e1.trans (ext_ice hr)) (R1.ext (ext_ice hr) (wf_ice R1.wf hr) c1) r2 q
      | frz xs =>
        have q : Qd (.d (.lst xs)) l1 := q1
        obtain ⟨b, h2, vs, h3, h4⟩ := R1.ce.2 n _ e
        rw [h1] at h2
        cases h2
        exact k (.d (.lst xs)) _ _ p1 e1 R1 (show RP X.K p1 (.d (.lst xs)) (.ref a) from RD.lst h3 h4) q
end
section
variable {K : PySem.W.Frag}
/-! ### built-ins -/
def bLen (xs : List P) (l : LS) (Q : P → LS → Prop) : Prop := match xs with
  | [x] => match seqOf l x with
    | some ys => Q (.d (.int (ys.length : Int))) l
    | none => False
  | _ => False
theorem ref_len : RefCall K (fun xs H Q => ∃ p ys, xs = [V.ref p] ∧ (SqL K H p ys ∨ SqT K H p ys) ∧ Q (V.int ys.length) H) bLen := fun p l xs vs Qd Q w ce rx h k => by
  unfold bLen at h
  split at h
  · obtain ⟨v, rfl, r⟩ := rx.one
    split at h
    · rename_i ys hy
      obtain ⟨a, us, rfl, hs, hr⟩ := seqOf_ok ce r hy
      refine ⟨a, us, rfl, hs, ?_⟩
      rw [← hr.len]
      exact k.same w ce (d := .d _) (RD.int _) h
    · exact h.elim
  · exact h.elim
def bLenS (xs : List P) (l : LS) (Q : P → LS → Prop) : Prop := match xs with
  | [.d (.str z)] => z.length ≤ sizeLine ∧ Q (.d (.int (z.length : Int))) l
  | _ => False
theorem ref_lenS : RefCall K (fun xs H Q => ∃ z, xs = [V.str z] ∧ z.length ≤ sizeLine ∧ Q (V.int z.length) H) bLenS := fun p l xs vs Qd Q w ce rx h k => by
  unfold bLenS at h
  split at h
  · obtain ⟨v, rfl, r⟩ := rx.one
    cases r
    exact ⟨_, rfl, h.1, k.same w ce (d := .d _) (RD.int _) h.2⟩
  · exact h.elim
def bList (f : Fresh) (xs : List P) (l : LS) (Q : P → LS → Prop) : Prop := match xs with
  | [x] => match seqOf l x with
    | some ys => freshL f ys l Q
    | none => False
  | _ => False
theorem ref_list {f : Fresh} : RefCall K (fun xs H Q => ∃ p ys, xs = [V.ref p] ∧ (SqL K H p ys ∨ SqT K H p ys) ∧ ∀ l, H l = none → Q (.ref l) (upd H l (.lst ys))) (bList f) := fun p l xs vs Qd Q w ce rx h k => by
  unfold bList at h
  split at h
  · obtain ⟨v, rfl, r⟩ := rx.one
    split at h
    · rename_i ys hy
      obtain ⟨a, us, rfl, hs, hr⟩ := seqOf_ok ce r hy
      exact ⟨a, us, rfl, hs, k.fresh w ce hr f h⟩
    · exact h.elim
  · exact h.elim
def bTup (xs : List P) (l : LS) (Q : P → LS → Prop) : Prop := match xs with
  | [x] => match seqOf l x with
    | some ys => Q (.d (.tup ys)) l
    | none => False
  | _ => False
theorem ref_tuple : RefCall K (fun xs H Q => ∃ p ys, xs = [V.ref p] ∧ ((SqL K H p ys ∧ ∀ l, H l = none → Q (.ref l) (upd H l (.tup ys))) ∨ (SqT K H p ys ∧ Q (.ref p) H))) bTup := fun p l xs vs Qd Q w ce rx h k => by
  unfold bTup at h
  split at h
  · rename_i x
    obtain ⟨v, rfl, r⟩ := rx.one
    split at h
    · rename_i ys hy
      cases x with
      | d x =>
        cases x with
        | tup zs =>
          cases hy
          cases r with
          | tup h1 h2 => exact ⟨_, _, rfl, .inr ⟨h1.sq, k.same w ce (d := .d _) (RD.tup h1 h2) h⟩⟩
        | lst zs =>
          cases hy
          cases r with
          | lst h1 h2 => exact ⟨_, _, rfl, .inl ⟨LstAt.sq (K := K) h1, k.newT w ce h2 h⟩⟩
        | scr zs =>
          cases hy
          cases r with
          | scr h1 h2 => exact ⟨_, _, rfl, .inl ⟨h1.sq, k.newT w ce h2 h⟩⟩
        | _ => cases hy
      | loc n =>
        obtain ⟨a, us, rfl, h1, h2⟩ := lstOf_ok ce r (show lstOf l (.loc n) = some ys from hy)
        exact ⟨_, _, rfl, .inl ⟨.inl (.inl h1), k.newT w ce h2 h⟩⟩
      | exc _ _ _ _ => cases hy
    · exact h.elim
  · exact h.elim
/-- a list (not a tuple) of things of one form -/
def lisOf (l : LS) : P → Option (List D)
  | .d (.lst xs) => some xs
  | .d (.scr xs) => some xs
  | .loc n => lstOf l (.loc n)
  | _ => none
theorem lisOf_ok {p : Pt} {l : LS} {x : P} {v : V} {xs : List D} (ce : Cells K p l) (r : RP K p x v) (h : lisOf l x = some xs) : ∃ a vs, v = .ref a ∧ SqL K p.H a vs ∧ RDs K p xs vs := by
  cases x with
  | d x =>
    cases x with
    | lst ys =>
      cases h
      cases r with
      | lst h1 h2 => exact ⟨_, _, rfl, LstAt.sq (K := K) h1, h2⟩
    | scr ys =>
      cases h
      cases r with
      | scr h1 h2 => exact ⟨_, _, rfl, h1.sq, h2⟩
    | _ => cases h
  | loc n =>
    obtain ⟨a, vs, rfl, h1, h2⟩ := lstOf_ok ce r h
    exact ⟨a, vs, rfl, .inl (.inl h1), h2⟩
  | exc _ _ _ _ => cases h
def bSum (xs : List P) (l : LS) (Q : P → LS → Prop) : Prop := match xs with
  | [x] => ∃ ns : List Int, lisOf l x = some (ns.map .int) ∧ Q (.d (.int ns.sum)) l
  | _ => False
theorem ref_sum : RefCall K (rSum K) bSum := fun p l xs vs Qd Q w ce rx h k => by
  unfold bSum at h
  split at h
  · obtain ⟨v, rfl, r⟩ := rx.one
    obtain ⟨ns, h1, h2⟩ := h
    obtain ⟨a, us, rfl, hs, hr⟩ := lisOf_ok ce r h1
    rw [hr.ints] at hs
    exact ⟨a, ns, rfl, hs, k.same w ce (d := .d _) (RD.int _) h2⟩
  · exact h.elim
def bAny (xs : List P) (l : LS) (Q : P → LS → Prop) : Prop := match xs with
  | [x] => ∃ ns : List Bool, lisOf l x = some (ns.map .bl) ∧ Q (.d (.bl (ns.any id))) l
  | _ => False
theorem ref_any : RefCall K (rAny K) bAny := fun p l xs vs Qd Q w ce rx h k => by
  unfold bAny at h
  split at h
  · obtain ⟨v, rfl, r⟩ := rx.one
    obtain ⟨ns, h1, h2⟩ := h
    obtain ⟨a, us, rfl, hs, hr⟩ := lisOf_ok ce r h1
    rw [hr.bls] at hs
    exact ⟨a, ns, rfl, hs, k.same w ce (d := .d _) (RD.bl _) h2⟩
  · exact h.elim
def bAll (xs : List P) (l : LS) (Q : P → LS → Prop) : Prop := match xs with
  | [x] => ∃ ns : List Bool, lisOf l x = some (ns.map .bl) ∧ Q (.d (.bl (ns.all id))) l
  | _ => False
theorem ref_all : RefCall K (rAll K) bAll := fun p l xs vs Qd Q w ce rx h k => by
  unfold bAll at h
  split at h
  · obtain ⟨v, rfl, r⟩ := rx.one
    obtain ⟨ns, h1, h2⟩ := h
    obtain ⟨a, us, rfl, hs, hr⟩ := lisOf_ok ce r h1
    rw [hr.bls] at hs
    exact ⟨a, ns, rfl, hs, k.same w ce (d := .d _) (RD.bl _) h2⟩
  · exact h.elim
def bMax (xs : List P) (l : LS) (Q : P → LS → Prop) : Prop := match xs with
  | [x] => ∃ ns : List Int, lisOf l x = some (ns.map .int) ∧ 0 < ns.length ∧ ∀ m, m ∈ ns → (∀ y, y ∈ ns → y ≤ m) → Q (.d (.int m)) l
  | _ => False
theorem ref_max : RefCall K (rMax K) bMax := fun p l xs vs Qd Q w ce rx h k => by
  unfold bMax at h
  split at h
  · obtain ⟨v, rfl, r⟩ := rx.one
    obtain ⟨ns, h1, h0, h2⟩ := h
    obtain ⟨a, us, rfl, hs, hr⟩ := lisOf_ok ce r h1
    rw [hr.ints] at hs
    exact ⟨a, ns, rfl, hs, h0, fun m hm hy => k.same w ce (d := .d _) (RD.int _) (h2 m hm hy)⟩
  · exact h.elim
def bMin (xs : List P) (l : LS) (Q : P → LS → Prop) : Prop := match xs with
  | [x] => ∃ ns : List Int, lisOf l x = some (ns.map .int) ∧ 0 < ns.length ∧ ∀ m, m ∈ ns → (∀ y, y ∈ ns → m ≤ y) → Q (.d (.int m)) l
  | _ => False
theorem ref_min : RefCall K (rMin K) bMin := fun p l xs vs Qd Q w ce rx h k => by
  unfold bMin at h
  split at h
  · obtain ⟨v, rfl, r⟩ := rx.one
    obtain ⟨ns, h1, h0, h2⟩ := h
    obtain ⟨a, us, rfl, hs, hr⟩ := lisOf_ok ce r h1
    rw [hr.ints] at hs
    exact ⟨a, ns, rfl, hs, h0, fun m hm hy => k.same w ce (d := .d _) (RD.int _) (h2 m hm hy)⟩
  · exact h.elim
def bInt2 (g : Int → Int → Int) (xs : List P) (l : LS) (Q : P → LS → Prop) : Prop := match xs with
  | [.d (.int i), .d (.int j)] => Q (.d (.int (g i j))) l
  | _ => False
theorem ref_int2 {g : Int → Int → Int} : RefCall K (fun xs H Q => ∃ i j, xs = [V.int i, V.int j] ∧ Q (.int (g i j)) H) (bInt2 g) := fun p l xs vs Qd Q w ce rx h k => by
  unfold bInt2 at h
  split at h
  · obtain ⟨v, u, rfl, r, r2⟩ := rx.two
    cases r; cases r2
    exact ⟨_, _, rfl, k.same w ce (d := .d _) (RD.int _) h⟩
  · exact h.elim
def bInt1 (g : Int → Int) (xs : List P) (l : LS) (Q : P → LS → Prop) : Prop := match xs with
  | [.d (.int i)] => Q (.d (.int (g i))) l
  | _ => False
theorem ref_abs : RefCall K (fun xs H Q => ∃ i, xs = [V.int i] ∧ Q (.int (if i < 0 then -i else i)) H) (bInt1 fun i => if i < 0 then -i else i) := fun p l xs vs Qd Q w ce rx h k => by
  unfold bInt1 at h
  split at h
  · obtain ⟨v, rfl, r⟩ := rx.one
    cases r
    exact ⟨_, rfl, k.same w ce (d := .d _) (RD.int _) h⟩
  · exact h.elim
theorem ref_int : RefCall K (fun xs H Q => (∃ i, xs = [V.int i] ∧ Q (.int i) H) ∨ ∃ k, xs = [.bl k] ∧ Q (.int (if k then 1 else 0)) H) (bInt1 fun i => i) := fun p l xs vs Qd Q w ce rx h k => by
  unfold bInt1 at h
  split at h
  · obtain ⟨v, rfl, r⟩ := rx.one
    cases r
    exact .inl ⟨_, rfl, k.same w ce (d := .d _) (RD.int _) h⟩
  · exact h.elim
def bStr (xs : List P) (l : LS) (Q : P → LS → Prop) : Prop := match xs with
  | [.d (.int i)] => i.natAbs.log2 < 1920 ∧ Q (.d (.str (toString i))) l
  | _ => False
theorem ref_str : RefCall K (fun xs H Q => ∃ i : Int, xs = [V.int i] ∧ i.natAbs.log2 < 1920 ∧ Q (.str (toString i)) H) bStr := fun p l xs vs Qd Q w ce rx h k => by
  unfold bStr at h
  split at h
  · obtain ⟨v, rfl, r⟩ := rx.one
    cases r
    exact ⟨_, rfl, h.1, k.same w ce (d := .d _) (RD.str _) h.2⟩
  · exact h.elim
/-- the built-in type of a thing -/
def tyOf : P → Option String
  | .d .non => some "NoneType"
  | .d (.bl _) => some "bool"
  | .d (.int _) => some "int"
  | .d (.str _) => some "str"
  | .d (.tup _) => some "tuple"
  | .d (.lst _) => some "list"
  | .loc _ => some "list"
  | _ => none
theorem tupAt_ty {p : Pt} {a : Addr} {vs : List V} (h : TupAt K p a vs) : TyX K p.H (.ref a) (.type "tuple") := by
  rcases h with ⟨_, h | ⟨o, h⟩⟩ | (h | ⟨o, h⟩) | ⟨o, its, n, h1, h2, h3⟩
  · exact .base (.tup h)
  · exact .fTuple h
  · cases h
  · cases h
  · exact .kTuple h1 h2
theorem tyOf_ok {p : Pt} {l : LS} {x : P} {v : V} {n : String} (ce : Cells K p l) (r : RP K p x v) (h : tyOf x = some n) (hl : ∀ m, x = .loc m → (lstOf l x).isSome = true) : TyX K p.H v (.type n) := by
  cases x with
  | d x =>
    cases r with
    | non => cases h; exact .base .non
    | bl _ => cases h; exact .base (.bl _)
    | int _ => cases h; exact .base (.int _)
    | str _ => cases h; exact .base (.str _)
    | tup h1 _ => cases h; exact tupAt_ty h1
    | lst h1 _ => cases h; exact .base (.lst h1.2)
    | ty _ => cases h
    | scr _ _ => cases h
    | obj _ _ _ => cases h
  | loc m =>
    cases h
    obtain ⟨xs, e⟩ := Option.isSome_iff_exists.mp (hl m rfl)
    obtain ⟨a, vs, rfl, h1, _⟩ := lstOf_ok ce r e
    exact .base (.lst h1)
  | exc _ _ _ _ => cases h
/-- isinstance(x, T), T a built-in type -/
def isT (n c : String) : Option Bool :=
  if n = c then (if n ∈ ["NoneType", "bool", "int", "str", "tuple", "list"] then some true else none)
  else if n = "bool" ∧ c = "int" then some true
  else if n ∈ ["NoneType", "bool", "int", "str", "tuple", "list"] ∧ c ∈ ["bool", "int", "str", "tuple", "list", "dict"] then some false else none
theorem isT_ok {n c : String} {b : Bool} (h : isT n c = some b) : kitB n c = some b := by
  unfold isT at h
  have all1 : ∀ n ∈ ["NoneType", "bool", "int", "str", "tuple", "list"], kitB n n = some true := by decide +kernel
  have all2 : ∀ n ∈ ["NoneType", "bool", "int", "str", "tuple", "list"], ∀ c ∈ ["bool", "int", "str", "tuple", "list", "dict"], n ≠ c → ¬ (n = "bool" ∧ c = "int") → kitB n c = some false := by decide +kernel
  split at h
  · rename_i e
    subst e
    split at h
    · rename_i m
      cases h
      exact all1 n m
    · cases h
  · rename_i ne
    split at h
    · rename_i m
      cases h
      obtain ⟨rfl, rfl⟩ := m
      decide +kernel
    · rename_i nb
      split at h
      · rename_i m
        cases h
        exact all2 n m.1 c m.2 ne nb
      · cases h
def bIsi (xs : List P) (l : LS) (Q : P → LS → Prop) : Prop := match xs with
  | [x, .d (.ty c)] => match tyOf x with
    | some n => match x with
      | .loc m => (lstOf l (.loc m)).isSome = true ∧ match isT n c with
        | some b => Q (.d (.bl b)) l
        | none => False
      | _ => match isT n c with
        | some b => Q (.d (.bl b)) l
        | none => False
    | none => False
  | _ => False
theorem ref_isi : RefCall K (rIsi K) bIsi := fun p l xs vs Qd Q w ce rx h k => by
  unfold bIsi at h
  split at h
  · rename_i x c
    obtain ⟨v, u, rfl, r, r2⟩ := rx.two
    cases r2
    cases e : tyOf x with
    | none => rw [e] at h; exact h.elim
    | some n =>
      rw [e] at h
      have fin : (∀ m, x = .loc m → (lstOf l x).isSome = true) → (match isT n c with | some b => Qd (.d (.bl b)) l | none => False) → rIsi K [v, .ty c] p.H Q := fun hl hq => by
        split at hq
        · rename_i b eb
          exact ⟨v, .ty c, .type n, .type c, b, rfl, .ty c, tyOf_ok ce r e hl, kit_ty (isT_ok eb), k.same w ce (d := .d _) (RD.bl _) hq⟩
        · exact hq.elim
      cases x with
      | d x => exact fin (fun m z => nomatch z) h
      | loc m => exact fin (fun m' z => by cases z; exact h.1) h.2
      | exc _ _ _ _ => exact fin (fun m z => nomatch z) h
  · exact h.elim
end
/-! ### methods of lists -/
section
variable {X : Cx} {W : WX} {a b e o : Expr} {es : List Expr} {wa wb we wo : WE} {ws : WA} {pos : Pos}
def RefMt (K : PySem.W.Frag) (r : V → List V → Hp → VK → Prop) (rd : ODm) : Prop := ∀ (p : Pt) (l : LS) (x : P) (vx : V) (xs : List P) (vs : List V) (Qd : P → LS → Prop) (Q : VK), WF p → Cells K p l → RP K p x vx → RPs K p xs vs → rd x xs l Qd → After K p Qd Q → r vx vs p.H Q
theorem RPs.mono {K : PySem.W.Frag} {p p' : Pt} (e : Ext p p') {xs : List P} {vs : List V} (h : RPs K p xs vs) : RPs K p' xs vs := Paired.mapP h fun _ _ r => r.mono e
def kBM2 (rd : ODm) (x : P) (Q : P → LS → Prop) (xs : List P) (l : LS) : Prop := rd x xs l Q
def kBM1 (rd : ODm) (ws : WA) (σ : SS) (Q : P → LS → Prop) (E : EK) (x : P) (l : LS) : Prop := (lisOf l x).isSome = true ∧ ws σ l (kBM2 rd x Q) E
def wBM (rd : ODm) (wo : WE) (ws : WA) (σ : SS) (l : LS) (Q : P → LS → Prop) (E : EK) : Prop := wo σ l (kBM1 rd ws σ Q E) E
def kBM0 (rd : ODm) (Q : P → LS → Prop) (x : P) (l : LS) : Prop := (lisOf l x).isSome = true ∧ rd x [] l Q
def wBM0 (rd : ODm) (wo : WE) (σ : SS) (l : LS) (Q : P → LS → Prop) (E : EK) : Prop := wo σ l (kBM0 rd Q) E
theorem lis_ty {K : PySem.W.Frag} {p : Pt} {l : LS} {x : P} {v : V} (ce : Cells K p l) (r : RP K p x v) (h : (lisOf l x).isSome = true) : tyV K "list" v p.H := by
  obtain ⟨xs, e⟩ := Option.isSome_iff_exists.mp h
  obtain ⟨a, vs, rfl, hs, _⟩ := lisOf_ok ce r e
  exact .inl ⟨rfl, vs, hs⟩
theorem qe_bm {name : Str} {id : String} {r : V → List V → Hp → VK → Prop} {rd : ODm} {apos cpos : Pos} (slot : Slot "list" name id) (hty : typeOf (.builtin id) = pure (.type "method_descriptor")) (hm : MtR X id r) (rr : RefMt X.K r rd) (ho : QE X W o wo) (ha : QA X W (e :: es) ws)
    (hbase : attributeBase o name X.env (eval o X.env) = eval o X.env := by rfl)
    (hp : ((backTo cpos (starEach (e :: es) X.env)).all (fun x => !x.1) && (backToKw cpos (keywordEach [] X.env)).all (fun x => x.1.isSome) && decide ((e :: es).length + ([] : List Keyword).length + (if ([] : List Keyword).isEmpty = true then 0 else 1) < 30)) = true := by rfl)
    (hline : (apos.endLine == cpos.line) = true := by rfl) (hs : starEach (e :: es) X.env = (false, eval e X.env) :: starEach es X.env := by rfl) (hpl : (backTo cpos (starEach es X.env)).any (·.1) = false := by rfl) :
    QE X W (.Call (.Attribute o name apos) (e :: es) [] cpos) (wBM rd wo ws) := PE.imp (pe_bm PySem.F.plainAttrs_list slot hty hm ho ha hbase hp hline hs hpl) fun σ H Q ⟨p, σd, l, Qd, Ed, hH, R, hw, k, lk⟩ => by
  subst hH
  exact cE_ok R hw lk fun x l1 v p1 e1 R1 r1 q1 => ⟨lis_ty R1.ce r1 q1.1, cA_ok R1 q1.2 (lk.mono e1) fun xs l2 vs p2 e2 R2 r2 q2 =>
    rr p2 l2 x v xs vs _ _ R2.wf R2.ce (r1.mono e2) r2 q2 fun d l' v' p' e' w' c' r' q' => k d l' v' p' ((e1.trans e2).trans e') (R2.ext e' w' c') r' q'⟩
theorem qe_bm0 {name : Str} {id : String} {r : V → List V → Hp → VK → Prop} {rd : ODm} {apos cpos : Pos} (slot : Slot "list" name id) (hty : typeOf (.builtin id) = pure (.type "method_descriptor")) (hm : MtR X id r) (rr : RefMt X.K r rd) (ho : QE X W o wo)
    (hbase : attributeBase o name X.env (eval o X.env) = eval o X.env := by rfl) (hline : (apos.endLine == cpos.line) = true := by rfl) : QE X W (.Call (.Attribute o name apos) [] [] cpos) (wBM0 rd wo) := PE.imp (pe_bm0 PySem.F.plainAttrs_list slot hty hm ho hbase hline) fun σ H Q ⟨p, σd, l, Qd, Ed, hH, R, hw, k, lk⟩ => by
  subst hH
  exact cE_ok R hw lk fun x l1 v p1 e1 R1 r1 q1 => ⟨lis_ty R1.ce r1 q1.1, rr p1 l1 x v [] [] _ _ R1.wf R1.ce r1 .nil q1.2 fun d l' v' p' e' w' c' r' q' => k d l' v' p' (e1.trans e') (R1.ext e' w' c') r' q'⟩
end
section
variable {K : PySem.W.Frag}
/-- a cell is written -/
theorem put_ok {p : Pt} {l : LS} {n : Nat} {v : V} {xs ys : List D} {vs us : List V} (w : WF p) (ce : Cells K p l) (r : RP K p (.loc n) v) (e : l[n]? = some (.lst xs)) : ∃ a, v = .ref a ∧ ∃ vs, p.H a = some (.lst vs) ∧ RDs K p xs vs ∧
    ∀ ys us, RDs K p ys us → Ext p (p.put a (.lst us)) ∧ WF (p.put a (.lst us)) ∧ Cells K (p.put a (.lst us)) (l.set n (.lst ys)) := by
  obtain ⟨a, h1, rfl⟩ := r
  obtain ⟨b, h2, nf, vs, h3, h4⟩ := ce.2 n _ e
  rw [h1] at h2
  cases h2
  have hr := List.mem_of_getElem? h1
  exact ⟨a, rfl, vs, h3, h4, fun ys us q => ⟨ext_put hr nf, wf_put w, Cells.put w ce h1 nf ⟨nf, us, upd_same, q.mono (ext_put hr nf).hf⟩⟩⟩
def mAppend (x : P) (xs : List P) (l : LS) (Q : P → LS → Prop) : Prop := match x, xs with
  | .loc n, [.d y] => match l[n]? with
    | some (.lst ys) => ys.length < sizeLine ∧ Q (.d .non) (l.set n (.lst (ys ++ [y])))
    | _ => False
  | _, _ => False
theorem ref_append : RefMt K rAppend mAppend := fun p l x vx xs vs Qd Q w ce rx rxs h k => by
  unfold mAppend at h
  split at h
  · rename_i n y
    obtain ⟨v, rfl, r⟩ := rxs.one
    split at h
    · rename_i ys hy
      obtain ⟨a, rfl, us, h3, h4, f⟩ := put_ok (ys := []) (us := []) (vs := []) w ce rx hy
      obtain ⟨e1, w1, c1⟩ := f (ys ++ [y]) (us ++ [v]) (h4.append (.cons r .nil))
      exact ⟨a, us, v, rfl, rfl, h3, by rw [← h4.len]; exact h.1, k (.d .non) _ _ _ e1 w1 c1 RD.non h.2⟩
    · exact h.elim
  · exact h.elim
def mPop (x : P) (xs : List P) (l : LS) (Q : P → LS → Prop) : Prop := match x, xs with
  | .loc n, [] => match l[n]? with
    | some (.lst ys) => ∃ y, ys[ys.length - 1]? = some y ∧ Q (.d y) (l.set n (.lst ys.dropLast))
    | _ => False
  | _, _ => False
theorem ref_pop : RefMt K rPop mPop := fun p l x vx xs vs Qd Q w ce rx rxs h k => by
  unfold mPop at h
  split at h
  · rename_i n
    cases rxs
    split at h
    · rename_i ys hy
      obtain ⟨y, hy1, hy2⟩ := h
      obtain ⟨a, rfl, us, h3, h4, f⟩ := put_ok (ys := []) (us := []) (vs := []) w ce rx hy
      obtain ⟨e1, w1, c1⟩ := f ys.dropLast us.dropLast h4.dropLast
      obtain ⟨v, g1, g2⟩ := h4.get hy1
      exact ⟨a, us, v, rfl, rfl, h3, by rw [← h4.len]; exact g1, k (.d y) _ _ _ e1 w1 c1 (g2.mono e1.hf) hy2⟩
    · exact h.elim
  · exact h.elim
def mPopAt (x : P) (xs : List P) (l : LS) (Q : P → LS → Prop) : Prop := match x, xs with
  | .loc n, [.d (.int i)] => match l[n]? with
    | some (.lst ys) => -(2 ^ 63) ≤ i ∧ i < 2 ^ 63 ∧ ∃ k y, seqIndex? i ys.length = some k ∧ ys[k]? = some y ∧ Q (.d y) (l.set n (.lst (ys.eraseIdx k)))
    | _ => False
  | _, _ => False
theorem ref_popAt : RefMt K rPopAt mPopAt := fun p l x vx xs vs Qd Q w ce rx rxs h k => by
  unfold mPopAt at h
  split at h
  · rename_i n i
    obtain ⟨v, rfl, r⟩ := rxs.one
    cases r
    split at h
    · rename_i ys hy
      obtain ⟨b1, b2, j, y, hj, hy1, hy2⟩ := h
      obtain ⟨a, rfl, us, h3, h4, f⟩ := put_ok (ys := []) (us := []) (vs := []) w ce rx hy
      obtain ⟨e1, w1, c1⟩ := f (ys.eraseIdx j) (us.eraseIdx j) (h4.eraseIdx j)
      obtain ⟨v, g1, g2⟩ := h4.get hy1
      exact ⟨a, us, i, j, v, rfl, rfl, h3, b1, b2, by rw [← h4.len]; exact hj, g1, k (.d y) _ _ _ e1 w1 c1 (g2.mono e1.hf) hy2⟩
    · exact h.elim
  · exact h.elim
def mRev (x : P) (xs : List P) (l : LS) (Q : P → LS → Prop) : Prop := match x, xs with
  | .loc n, [] => match l[n]? with
    | some (.lst ys) => Q (.d .non) (l.set n (.lst ys.reverse))
    | _ => False
  | _, _ => False
theorem ref_reverse : RefMt K rReverse mRev := fun p l x vx xs vs Qd Q w ce rx rxs h k => by
  unfold mRev at h
  split at h
  · rename_i n
    cases rxs
    split at h
    · rename_i ys hy
      obtain ⟨a, rfl, us, h3, h4, f⟩ := put_ok (ys := []) (us := []) (vs := []) w ce rx hy
      obtain ⟨e1, w1, c1⟩ := f ys.reverse us.reverse h4.reverse
      exact ⟨a, us, rfl, rfl, h3, k (.d .non) _ _ _ e1 w1 c1 RD.non h⟩
    · exact h.elim
  · exact h.elim
def mExtend (x : P) (xs : List P) (l : LS) (Q : P → LS → Prop) : Prop := match x, xs with
  | .loc n, [y] => match l[n]? with
    | some (.lst ys) => match y with
      | .d (.tup zs) => ys.length + zs.length ≤ sizeLine ∧ Q (.d .non) (l.set n (.lst (ys ++ zs)))
      | y => match lstOf l y with
        | some zs => ys.length + zs.length ≤ sizeLine ∧ Q (.d .non) (l.set n (.lst (ys ++ zs)))
        | none => False
    | _ => False
  | _, _ => False
end
end QL
namespace PySem
open AutoSeq1
set_option maxRecDepth 8000 in
theorem list_extend_tup (l : Addr) (items : Array Value) (n : Nat) (b : Addr) (items2 : Array Value) (n2 : Nat) (dd : Option Addr) (sl : Array (Option Value)) (hs0 : ¬(!items.isEmpty && Builtin.List.listTooLong (items.size + items2.size)) = true) (hs1 : items.size ≤ sizeLine) (hs2 : items.size + items2.size ≤ sizeLine + 1) :
    Meets (Builtin.«list.extend» ⟨[.ref l, .ref b], []⟩) (fun _ R s => s.heap.get? l = some { cls := .type "list", dict := none, data := .seq items n, slots := #[] } ∧ s.heap.get? b = some { cls := .type "tuple", dict := dd, data := .seq items2 n2, slots := sl } ∧ R (.ok (.ret Value.none)) { s with heap := s.heap.update l (Obj.mapSeq fun x => x ++ items2), toks := s.toks }) :=
  .of_wp fun prog w A R s h => by
    obtain ⟨hp, g, d, tk, os⟩ := s; obtain ⟨hl, hb, h⟩ := h; have f1 := idx_int; have f2 := sub_tuple_tuple; have f3 := sub_list_list; have f4 := sub_tuple_list; have f5 := sub_list_tuple;
    have hz' : (items ++ items2).size ≤ sizeLine + 1 := by rw [Array.size_append]; exact hs2
    wp_walk using (wpAny_updateSeq hl rfl (hz := hs1) (_hz' := hz')), wpAny_loadPart' hl, wpAny_loadPart' hb; exact ⟨_, rfl, h⟩
end PySem
namespace QL
open PySem L2
def rExtT (K : PySem.W.Frag) : V → List V → Hp → VK → Prop := fun x vs H Q => ∃ l b xs zs, x = .ref l ∧ vs = [.ref b] ∧ H l = some (.lst xs) ∧ SqT K H b zs ∧ xs.length + zs.length ≤ sizeLine ∧ Q .non (upd H l (.lst (xs ++ zs)))
theorem mt_extendT {X : Cx} : MtM X "list.extend" (rExtT X.K) := by
  intro pins s σ H x v vs u Q I rx rv h
  obtain ⟨l, b, xs, zs, rfl, rfl, hH, hB, hz, q⟩ := h
  cases rx
  obtain ⟨u, rfl, ru⟩ := rv.one
  cases ru
  obtain ⟨z, its, n, r, hl, e⟩ := I.lstM hH
  obtain ⟨its2, r2, ⟨o2, e2, hc2, n2, hd2⟩, hl2⟩ := I.tuple hB
  obtain ⟨c2, d2, dt2, sl2⟩ := o2
  dsimp only at hc2 hd2
  subst hc2; subst hd2
  have hx : xs.length = its.length := r.length
  have hy : zs.length = its2.length := r2.length
  have hsz : its.toArray.size + its2.toArray.size ≤ sizeLine := by rw [List.size_toArray, List.size_toArray]; omega
  have hlong : ¬ (!its.toArray.isEmpty && Builtin.List.listTooLong (its.toArray.size + its2.toArray.size)) = true := by
    rw [notLongL hsz, Bool.and_false]
    exact Bool.false_ne_true
  refine call_meets F.slot_list_extend ⟨_, e, rfl⟩ F.entry_list_extend (F.args_list_extend_2 _ _)
    (PySem.list_extend_tup l its.toArray n b its2.toArray n2 d2 sl2 hlong (by rw [List.size_toArray]; omega) (by omega)) ⟨e, e2, ?_⟩
  refine ⟨.non, _, I.lset (its' := its ++ its2) hH e (by simp) (r.append r2) ?_, rfl, q⟩
  rw [List.length_append]
  omega
theorem ref_extend {K : PySem.W.Frag} : RefMt K (fun x vs H Q => rExtend x vs H Q ∨ rExtT K x vs H Q) mExtend := fun p l x vx xs vs Qd Q w ce rx rxs h k => by
  unfold mExtend at h
  split at h
  · rename_i n y
    obtain ⟨v, rfl, r⟩ := rxs.one
    split at h
    · rename_i ys hy
      obtain ⟨a, rfl, us, h3, h4, f⟩ := put_ok (ys := []) (us := []) (vs := []) w ce rx hy
      split at h
      · rename_i zs
        cases r with
        | tup h1 r1 =>
          obtain ⟨e1, w1, c1⟩ := f _ _ (h4.append r1)
          exact .inr ⟨a, _, us, _, rfl, rfl, h3, h1.sq, by rw [← h4.len, ← r1.len]; exact h.1, k (.d .non) _ _ _ e1 w1 c1 RD.non h.2⟩
      · split at h
        · rename_i zs hz
          obtain ⟨b, ws, rfl, hb, rb⟩ := lstOf_ok ce r hz
          obtain ⟨e1, w1, c1⟩ := f _ _ (h4.append rb)
          exact .inl ⟨a, b, us, ws, rfl, rfl, h3, hb, by rw [← h4.len, ← rb.len]; exact h.1, k (.d .non) _ _ _ e1 w1 c1 RD.non h.2⟩
        · exact h.elim
    · exact h.elim
  · exact h.elim
theorem mt_ext {X : Cx} : MtR X "list.extend" (fun x vs H Q => rExtend x vs H Q ∨ rExtT X.K x vs H Q) := fun pins s σ H x xs v us Q I rx rv h => by
  rcases h with h | h
  · exact mt_extend pins s σ H x xs v us Q I rx rv h
  · exact mt_extendT pins s σ H x xs v us Q I rx rv h
/-! ### l[i] = v -/
section
variable {X : Cx} {W : WX} {o i : Expr} {wo wi : WE} {pos : Pos}
def noEx (_ : Ex) (_ : LS) : Prop := False
def kSub2 (d : P) (σ : SS) (x : P) (Q : SS → LS → Prop) (y : P) (l : LS) : Prop := match d, x, y with
  | .d v, .loc n, .d (.int k) => match l[n]? with
    | some (.lst ys) => ∃ j, ixN ys.length k = some j ∧ Q σ (l.set n (.lst (ys.set j v)))
    | _ => False
  | _, _, _ => False
def kSub1 (wi : WE) (d : P) (σ : SS) (Q : SS → LS → Prop) (x : P) (l : LS) : Prop := wi σ l (kSub2 d σ x Q) noEx
def gSubL (wo wi : WE) (d : P) (σ : SS) (l : LS) (Q : SS → LS → Prop) : Prop := wo σ l (kSub1 wi d σ Q) noEx
theorem LinkE.never {K : PySem.W.Frag} {p : Pt} {σ : St} {σd : SS} : LinkE K W p σ σd noEx := fun _ _ _ _ _ _ _ _ h => h.elim
theorem qg_subL (ho : QE X W o wo) (hi : QE X W i wi)
    (ha : ∀ v, assign (.Subscript o i pos) X.env v = (do
      let ov ← holding [v] (eval o X.env)
      let iv ← holding [v, ov] (eval i X.env)
      standAt pos
      holding [v, ov, iv] (setItem ov iv v)
      release [v, ov, iv] []) := by intro _; rfl) : QG X (.Subscript o i pos) (gSubL wo wi) := PG.imp (pg_sub ho hi set_list ha) fun v σ H Q ⟨p, σd, l, d, Qd, hH, R, r, hw, k⟩ => by
  subst hH
  refine cE_ok R hw LinkE.never fun x l1 vx p1 e1 R1 r1 q1 => cE_ok R1 q1 LinkE.never fun y l2 vy p2 e2 R2 r2 q2 => ?_
  unfold kSub2 at q2
  split at q2
  · rename_i z n j
    cases r2
    split at q2
    · rename_i ys hy
      obtain ⟨m, hm, q⟩ := q2
      obtain ⟨a, rfl, us, h3, h4, f⟩ := put_ok (ys := []) (us := []) (vs := []) R2.wf R2.ce (r1.mono e2) hy
      obtain ⟨e3, w3, c3⟩ := f _ _ (h4.set (RD.mono (e1.trans e2).hf r) m)
      exact ⟨a, us, j, m, rfl, rfl, h3, by rw [← h4.len]; exact hm, k (p2.put a _) σ σd _ ((e1.trans e2).trans e3) (R2.ext e3 w3 c3) q⟩
    · exact q2.elim
  · exact q2.elim
end
end QL
set_option Elab.async false
set_option linter.all false
set_option maxRecDepth 100000
set_option maxHeartbeats 4000000
/-! QL5: loops, comprehensions, defs and their calls. -/
namespace QL
open PySem L2

/-! ### what a loop walks -/
structure Items where
  xs : List D
  ok : LS → Prop
abbrev WI := SS → LS → (Items → LS → Prop) → EK → Prop
/-- at each later point the iterator gives the items one by one -/
def ItOk (K : PySem.W.Frag) (p : Pt) (J : It) (I : Items) : Prop := ∀ p2 l2, Ext p p2 → WF p2 → Cells K p2 l2 → I.ok l2 → ∀ i : Nat,
  (I.xs.length ≤ i → J.stop i p2.H) ∧ (i < I.xs.length → J.go i p2.H) ∧
  (∀ x H' d, I.xs[i]? = some d → J.yld i p2.H x H' → ∃ p3, p3.H = H' ∧ Ext p2 p3 ∧ WF p3 ∧ Cells K p3 l2 ∧ RD K p3 d x)
def cI (K : PySem.W.Frag) (W : WX) (w : WI) : TI := fun σ H R => ∃ (p : Pt) (σd : SS) (l : LS) (Rd : Items → LS → Prop) (Ed : EK), p.H = H ∧ Rel K p σ σd l ∧ w σd l Rd Ed ∧
  (∀ I l' J p', Ext p p' → Rel K p' σ σd l' → ItOk K p' J I → Rd I l' → R J p'.H) ∧ LinkE K W p σ σd Ed
def QI (X : Cx) (W : WX) (tg e : Expr) (w : WI) : Prop := PI X tg e (cI X.K W w)
theorem PI.imp {X : Cx} {tg e : Expr} {t t' : TI} (h : PI X tg e t) (k : ∀ σ H Q, t' σ H Q → t σ H Q) : PI X tg e t' := ⟨fun pins s σ H R I q => h.run pins s σ H R I (k σ H R q)⟩
theorem cI_ok {K : PySem.W.Frag} {W : WX} {p : Pt} {σ : St} {σd : SS} {l : LS} {w : WI} {R : It → Hp → Prop} {Rd : Items → LS → Prop} {Ed : EK} (Rr : Rel K p σ σd l) (hw : w σd l Rd Ed) (lk : LinkE K W p σ σd Ed)
    (k : ∀ I l' J p', Ext p p' → Rel K p' σ σd l' → ItOk K p' J I → Rd I l' → R J p'.H) : cI K W w σ p.H R := ⟨p, σd, l, Rd, Ed, rfl, Rr, hw, k, lk⟩

theorem sqL_mono {K : PySem.W.Frag} {p p' : Pt} {a : Addr} {vs : List V} (e : Ext p p') (h : (p.F a ∧ Rd p.H a (.lst vs)) ∨ SqL K (fun _ => none) a vs) : SqL K p'.H a vs := (ScrAt.mono (K := K) e.hf h).sq
section
variable {X : Cx} {W : WX} {tg e : Expr} {we : WE} {ws : WA} {pos : Pos}
/-- over a list -/
def okAll (_ : LS) : Prop := True
def okCell (n : Nat) (xs : List D) (l : LS) : Prop := l[n]? = some (.lst xs)
def kLst (R : Items → LS → Prop) (x : P) (l : LS) : Prop := match x with
  | .d (.lst xs) => R ⟨xs, okAll⟩ l
  | .d (.scr xs) => R ⟨xs, okAll⟩ l
  | .loc n => match l[n]? with
    | some (.lst xs) => R ⟨xs, okCell n xs⟩ l
    | some (.frz xs) => R ⟨xs, okAll⟩ l
    | none => False
  | _ => False
def iLst (we : WE) (σ : SS) (l : LS) (R : Items → LS → Prop) (E : EK) : Prop := we σ l (kLst R) E
theorem it_list {K : PySem.W.Frag} {p : Pt} {a : Addr} {xs : List D} {vs : List V} {ok : LS → Prop} (hr : RDs K p xs vs) (h : ∀ p2 l2, Ext p p2 → WF p2 → Cells K p2 l2 → ok l2 → ∃ us, SqL K p2.H a us ∧ RDs K p2 xs us) : ItOk K p (Itl K a) ⟨xs, ok⟩ := fun p2 l2 e w c o i => by
  obtain ⟨us, h1, h2⟩ := h p2 l2 e w c o
  refine ⟨fun hi => ⟨us, h1, by rw [← h2.len]; exact hi⟩, fun hi => ?_, fun x H' d hd hy => ?_⟩
  · obtain ⟨v, g1, _⟩ := h2.get (List.getElem?_eq_getElem hi)
    exact ⟨us, v, h1, g1⟩
  · obtain ⟨v, g1, g2⟩ := h2.get hd
    obtain ⟨hH, hv⟩ := hy
    subst hH
    have e1 := hv us h1
    rw [g1] at e1
    cases e1
    exact ⟨p2, rfl, Ext.refl _, w, c, g2⟩
theorem qi_list (hl : QE X W e we) (hi : PI X tg e (iList X.K (cE X.K W we))) : QI X W tg e (iLst we) := PI.imp hi fun σ H R ⟨p, σd, l, Rd, Ed, hH, R0, hw, k, lk⟩ => by
  subst hH
  refine cE_ok R0 hw lk fun x l1 v p1 e1 R1 r1 q1 => ?_
  cases x with
  | d x =>
    cases x with
    | lst xs =>
      cases r1 with
      | lst h1 h2 => exact ⟨_, rfl, ⟨_, LstAt.sq (K := X.K) h1⟩, k ⟨xs, okAll⟩ l1 _ p1 e1 R1 (it_list h2 fun p2 l2 e2 w2 c2 _ => ⟨_, LstAt.sq (K := X.K) (h1.mono e2.hf), h2.mono e2.hf⟩) q1⟩
    | scr xs =>
      cases r1 with
      | scr h1 h2 => exact ⟨_, rfl, ⟨_, h1.sq⟩, k ⟨xs, okAll⟩ l1 _ p1 e1 R1 (it_list h2 fun p2 l2 e2 w2 c2 _ => ⟨_, (h1.mono e2.hf).sq, h2.mono e2.hf⟩) q1⟩
    | _ => exact q1.elim
  | loc n =>
    obtain ⟨a, h1, rfl⟩ := r1
    unfold kLst at q1
    dsimp only at q1
    cases ee : l1[n]? with
    | none => rw [ee] at q1; exact q1.elim
    | some c =>
      rw [ee] at q1
      obtain ⟨b, h2, h3⟩ := R1.ce.2 n c ee
      rw [h1] at h2
      cases h2
      cases c with
      | lst xs =>
        obtain ⟨nf, vs, h4, h5⟩ := h3
        refine ⟨a, rfl, ⟨vs, .inl (.inl h4)⟩, k ⟨xs, _⟩ l1 _ p1 e1 R1 (it_list h5 fun p2 l2 e2 w2 c2 o2 => ?_) q1⟩
        obtain ⟨b, g1, g2, us, g3, g4⟩ := c2.2 n _ o2
        obtain ⟨t, ht⟩ := e2.pre
        rw [ht, List.getElem?_append_left (List.getElem?_eq_some_iff.mp h1).1, h1] at g1
        cases g1
        exact ⟨us, .inl (.inl g3), g4⟩
      | frz xs =>
        obtain ⟨vs, h4, h5⟩ := h3
        exact ⟨a, rfl, ⟨vs, LstAt.sq (K := X.K) h4⟩, k ⟨xs, okAll⟩ l1 _ p1 e1 R1 (it_list h5 fun p2 l2 e2 w2 c2 _ => ⟨_, LstAt.sq (K := X.K) (h4.mono e2.hf), h5.mono e2.hf⟩) q1⟩
  | exc _ _ _ _ => exact q1.elim
def kTp (R : Items → LS → Prop) (x : P) (l : LS) : Prop := match x with
  | .d (.tup xs) => R ⟨xs, okAll⟩ l
  | _ => False
def iTp (we : WE) (σ : SS) (l : LS) (R : Items → LS → Prop) (E : EK) : Prop := we σ l (kTp R) E
theorem qi_tup (hi : PI X tg e (iTup X.K (cE X.K W we))) : QI X W tg e (iTp we) := PI.imp hi fun σ H R ⟨p, σd, l, Rd, Ed, hH, R0, hw, k, lk⟩ => by
  subst hH
  refine cE_ok R0 hw lk fun x l1 v p1 e1 R1 r1 q1 => ?_
  cases x with
  | d x =>
    cases x with
    | tup xs =>
      cases r1 with
      | @tup a _ vs h1 h2 =>
        refine ⟨_, rfl, ⟨_, h1.sq⟩, k ⟨xs, okAll⟩ l1 _ p1 e1 R1 (fun p2 l2 e2 w2 c2 _ i => ?_) q1⟩
        have g1 := (h1.mono e2.hf).sq
        have g2 := h2.mono e2.hf
        refine ⟨fun hi => ⟨vs, g1, by rw [← g2.len]; exact hi⟩, fun hi => ?_, fun x H' d hd hy => ?_⟩
        · obtain ⟨v, z1, _⟩ := g2.get (List.getElem?_eq_getElem hi)
          exact ⟨vs, v, g1, z1⟩
        · obtain ⟨v, z1, z2⟩ := g2.get hd
          obtain ⟨hH, hv⟩ := hy
          subst hH
          have e1 := hv vs g1
          rw [z1] at e1
          cases e1
          exact ⟨p2, rfl, Ext.refl _, w2, c2, z2⟩
    | _ => exact q1.elim
  | _ => exact q1.elim
def rangeD (lo : Int) (n : Nat) : List D := (List.range n).map fun i => D.int (lo + (i : Nat))
theorem rangeD_len {lo : Int} {n : Nat} : (rangeD lo n).length = n := by simp [rangeD]
theorem rangeD_get {lo : Int} {n i : Nat} {d : D} (h : (rangeD lo n)[i]? = some d) : i < n ∧ d = .int (lo + (i : Nat)) := by
  unfold rangeD at h
  rw [List.getElem?_map] at h
  by_cases hi : i < n
  · rw [List.getElem?_range hi] at h
    exact ⟨hi, by simpa using h.symm⟩
  · rw [List.getElem?_eq_none (by simpa using hi)] at h
    cases h
theorem it_range {K : PySem.W.Frag} {p : Pt} {lo : Int} {n : Nat} : ItOk K p (Itr lo n) ⟨rangeD lo n, okAll⟩ := fun p2 l2 e w c o i => by
  refine ⟨fun hi => by show n ≤ i; simpa [rangeD] using hi, fun hi => by show i < n; simpa [rangeD] using hi, fun x H' d hd hy => ?_⟩
  obtain ⟨hH, rfl⟩ := hy
  obtain ⟨_, rfl⟩ := rangeD_get hd
  exact ⟨p2, hH.symm, Ext.refl _, w, c, .int _⟩
def kRg1 (R : Items → LS → Prop) (xs : List P) (l : LS) : Prop := match xs with
  | [.d (.int j)] => -(2 ^ 62) ≤ j ∧ j < 2 ^ 62 ∧ R ⟨rangeD 0 j.toNat, okAll⟩ l
  | _ => False
def iRg1 (ws : WA) (σ : SS) (l : LS) (R : Items → LS → Prop) (E : EK) : Prop := ws σ l (kRg1 R) E
theorem qi_range1 (hi : PI X tg e (iRng1 (cA X.K W ws))) : QI X W tg e (iRg1 ws) := PI.imp hi fun σ H R ⟨p, σd, l, Rd, Ed, hH, R0, hw, k, lk⟩ => by
  subst hH
  refine cA_ok R0 hw lk fun xs l1 vs p1 e1 R1 r1 q1 => ?_
  unfold kRg1 at q1
  split at q1
  · obtain ⟨v, rfl, r⟩ := r1.one
    cases r
    exact ⟨_, rfl, q1.1, q1.2.1, k _ l1 _ p1 e1 R1 it_range q1.2.2⟩
  · exact q1.elim
def kRg2 (R : Items → LS → Prop) (xs : List P) (l : LS) : Prop := match xs with
  | [.d (.int i), .d (.int j)] => (-(2 ^ 62) ≤ i ∧ i < 2 ^ 62 ∧ -(2 ^ 62) ≤ j ∧ j < 2 ^ 62) ∧ R ⟨rangeD i (j - i).toNat, okAll⟩ l
  | _ => False
def iRg2 (ws : WA) (σ : SS) (l : LS) (R : Items → LS → Prop) (E : EK) : Prop := ws σ l (kRg2 R) E
theorem qi_range2 (hi : PI X tg e (iRng2 (cA X.K W ws))) : QI X W tg e (iRg2 ws) := PI.imp hi fun σ H R ⟨p, σd, l, Rd, Ed, hH, R0, hw, k, lk⟩ => by
  subst hH
  refine cA_ok R0 hw lk fun xs l1 vs p1 e1 R1 r1 q1 => ?_
  unfold kRg2 at q1
  split at q1
  · obtain ⟨v, u, rfl, r, r2⟩ := r1.two
    cases r; cases r2
    exact ⟨_, _, rfl, q1.1, k _ l1 _ p1 e1 R1 it_range q1.2⟩
  · exact q1.elim
/-- range(a, b, -1) and the like -/
def rangeC (lo c : Int) (n : Nat) : List D := (List.range n).map fun i => D.int (lo + (i : Nat) * c)
theorem rangeC_get {lo c : Int} {n i : Nat} {d : D} (h : (rangeC lo c n)[i]? = some d) : i < n ∧ d = .int (lo + (i : Nat) * c) := by
  unfold rangeC at h
  rw [List.getElem?_map] at h
  by_cases hi : i < n
  · rw [List.getElem?_range hi] at h
    exact ⟨hi, by simpa using h.symm⟩
  · rw [List.getElem?_eq_none (by simpa using hi)] at h
    cases h
theorem rangeC_len {lo c : Int} {n : Nat} : (rangeC lo c n).length = n := by simp [rangeC]
theorem it_rangeC {K : PySem.W.Frag} {p : Pt} {lo c : Int} {n : Nat} : ItOk K p (Itc lo c n) ⟨rangeC lo c n, okAll⟩ := fun p2 l2 e w ce o i => by
  refine ⟨fun hi => by show n ≤ i; simpa [rangeC] using hi, fun hi => by show i < n; simpa [rangeC] using hi, fun x H' d hd hy => ?_⟩
  obtain ⟨hH, rfl⟩ := hy
  obtain ⟨_, rfl⟩ := rangeC_get hd
  exact ⟨p2, hH.symm, Ext.refl _, w, ce, .int _⟩
def kRg3 (R : Items → LS → Prop) (xs : List P) (l : LS) : Prop := match xs with
  | [.d (.int i), .d (.int j), .d (.int c)] => ∃ n, RgC i j c n ∧ R ⟨rangeC i c n, okAll⟩ l
  | _ => False
def iRg3 (ws : WA) (σ : SS) (l : LS) (R : Items → LS → Prop) (E : EK) : Prop := ws σ l (kRg3 R) E
theorem qi_range3 (hi : PI X tg e (iRng3 (cA X.K W ws))) : QI X W tg e (iRg3 ws) := PI.imp hi fun σ H R ⟨p, σd, l, Rd, Ed, hH, R0, hw, k, lk⟩ => by
  subst hH
  refine cA_ok R0 hw lk fun xs l1 vs p1 e1 R1 r1 q1 => ?_
  unfold kRg3 at q1
  split at q1
  · obtain ⟨n, h1, h2⟩ := q1
    cases r1 with
    | cons r t =>
      obtain ⟨v, u, rfl, r2, r3⟩ := RPs.two t
      cases r; cases r2; cases r3
      exact ⟨_, _, _, n, rfl, h1, k _ l1 _ p1 e1 R1 it_rangeC h2⟩
  · exact q1.elim
/-- over the signs of a text -/
def signsD (z : Str) : List D := z.cps.toList.map fun c => D.str ⟨#[c]⟩
def kSt (R : Items → LS → Prop) (x : P) (l : LS) : Prop := match x with
  | .d (.str z) => R ⟨signsD z, okAll⟩ l
  | _ => False
def iSt (we : WE) (σ : SS) (l : LS) (R : Items → LS → Prop) (E : EK) : Prop := we σ l (kSt R) E
theorem qi_str (hi : PI X tg e (iStr (cE X.K W we))) : QI X W tg e (iSt we) := PI.imp hi fun σ H R ⟨p, σd, l, Rd, Ed, hH, R0, hw, k, lk⟩ => by
  subst hH
  refine cE_ok R0 hw lk fun x l1 v p1 e1 R1 r1 q1 => ?_
  unfold kSt at q1
  split at q1
  · rename_i z
    cases r1
    refine ⟨z, rfl, k ⟨signsD z, okAll⟩ l1 _ p1 e1 R1 (fun p2 l2 e2 w2 c2 _ i => ?_) q1⟩
    refine ⟨fun hi => by show z.cps.size ≤ i; simpa [signsD] using hi, fun hi => by show i < z.cps.size; simpa [signsD] using hi, fun x H' d hd hy => ?_⟩
    obtain ⟨hH, c, hc, rfl⟩ := hy
    unfold signsD at hd
    rw [List.getElem?_map, Array.getElem?_toList, hc] at hd
    cases hd
    exact ⟨p2, hH.symm, Ext.refl _, w2, c2, .str _⟩
  · exact q1.elim
end

/-! ### for -/
def kTurn (tb : WS) (D : ED) (N : SS → LS → Prop) (σ : SS) (l : LS) : Prop := tb { D with nx := N, ct := N, bk := D.nx } σ l
def loopP (I : Items) (g : WG) (tb : WS) (D : ED) (σ : SS) (l : LS) : Prop := ∃ Iv : Nat → SS → LS → Prop, Iv 0 σ l ∧ (∀ i σ l, Iv i σ l → I.ok l) ∧
  (∀ i x σ l, I.xs[i]? = some x → Iv i σ l → g (.d x) σ l (kTurn tb D (Iv (i + 1)))) ∧ ∀ σ l, Iv I.xs.length σ l → D.nx σ l
def kFor (g : WG) (tb : WS) (D : ED) (σ : SS) (I : Items) (l : LS) : Prop := loopP I g tb D σ l
def wFor (wi : WI) (g : WG) (tb : WS) (D : ED) (σ : SS) (l : LS) : Prop := wi σ l (kFor g tb D σ) (exK D σ)
section
variable {X : Cx} {W : WX}
theorem qs_for {tg iter : Expr} {body : List Stmt} {wi : WI} {g : WG} {tb : WS} {pos : Pos} (hp : PassesOwn (model X.prog X.w) X.A X.env X.xe) (hc : X.calm = true) (hi : QI X W tg iter wi) (hg : QG X tg g) (hb : QSs X W body tb)
    (hs : ∀ x, foldedSetIterable iter X.env x = pure x := by intro _; rfl) : QS X W (.For tg iter body [] pos) (wFor wi g tb) := PS.imp (ps_for hp hc hi hg hb hs) fun D σ H ⟨p, σd, l, Dd, hH, R, hw, k⟩ => by
  subst hH
  refine cI_ok R hw k.link fun I l1 J p1 e1 R1 it q1 => ?_
  obtain ⟨Iv, h0, hok, hturn, hend⟩ := q1
  refine ⟨fun i m σ' H' => m = I.xs.length - i ∧ i ≤ I.xs.length ∧ ∃ p2 σd2 l2, p2.H = H' ∧ Ext p1 p2 ∧ Rel X.K p2 σ' σd2 l2 ∧ Iv i σd2 l2, ⟨_, rfl, Nat.zero_le _, p1, σd, l1, rfl, Ext.refl _, R1, h0⟩, ?_⟩
  rintro i m σ2 H2 ⟨rfl, hi, p2, σd2, l2, rfl, e2, R2, q2⟩
  obtain ⟨i1, i2, i3⟩ := it p2 l2 e2 R2.wf R2.ce (hok _ _ _ q2) i
  by_cases hlt : i < I.xs.length
  · refine .inr ⟨i2 hlt, fun σ' H' => ∃ p2 σd2 l2, p2.H = H' ∧ Ext p1 p2 ∧ Rel X.K p2 σ' σd2 l2 ∧ Iv (i + 1) σd2 l2, fun σ' H' hN => ⟨I.xs.length - (i + 1), by omega, rfl, hlt, hN⟩, fun x H' hy => ?_⟩
    obtain ⟨p3, rfl, e3, w3, c3, r3⟩ := i3 x H' _ (List.getElem?_eq_getElem hlt) hy
    have R3 := R2.ext e3 w3 c3
    refine cG_ok (d := .d _) R3 r3 (hturn i _ σd2 l2 (List.getElem?_eq_getElem hlt) q2) fun p4 σ4 σd4 l4 e4 R4 q4 => cS_ok R4 q4 ?_
    have E4 := ((e1.trans e2).trans e3).trans e4
    have F4 := (e2.trans e3).trans e4
    exact ⟨fun p' σ' σd' l' e R q => ⟨p', σd', l', rfl, F4.trans e, R, q⟩, fun p' a b c e => k.nx p' a b c (E4.trans e), fun p' σ' σd' l' e R q => ⟨p', σd', l', rfl, F4.trans e, R, q⟩,
      fun p' a b c e => k.rt p' a b c (E4.trans e), fun p' a b c d f g e => k.ex p' a b c d f g (E4.trans e)⟩
  · have : i = I.xs.length := by omega
    subst this
    exact .inl ⟨i1 (Nat.le_refl _), k.nx p2 σ2 σd2 l2 (e1.trans e2) R2 (hend _ _ q2)⟩
/-! ### while -/
def kLess (Iv : Nat → SS → LS → Prop) (m : Nat) (σ : SS) (l : LS) : Prop := ∃ m', m' < m ∧ Iv m' σ l
def kWh (tb : WS) (D : ED) (N : SS → LS → Prop) (σ : SS) (b : Bool) (l : LS) : Prop := if b = true then tb { D with nx := N, ct := N, bk := D.nx } σ l else D.nx σ l
def whileP (wt : WT) (tb : WS) (D : ED) (σ : SS) (l : LS) : Prop := ∃ Iv : Nat → SS → LS → Prop, (∃ m, Iv m σ l) ∧ ∀ m σ l, Iv m σ l → wt σ l (kWh tb D (kLess Iv m) σ) (exK D σ)
theorem qs_while {c : Expr} {body : List Stmt} {wt : WT} {tb : WS} {pos : Pos} (hp : PassesOwn (model X.prog X.w) X.A X.env X.xe) (hc : QT X W c wt) (hb : QSs X W body tb) : QS X W (.While c body [] pos) (whileP wt tb) := PS.imp (ps_while hp hc hb) fun D σ H ⟨p, σd, l, Dd, hH, R, hw, k⟩ => by
  subst hH
  obtain ⟨Iv, ⟨m0, h0⟩, turn⟩ := hw
  refine ⟨fun m σ' H' => ∃ p2 σd2 l2, p2.H = H' ∧ Ext p p2 ∧ Rel X.K p2 σ' σd2 l2 ∧ Iv m σd2 l2, ⟨m0, p, σd, l, rfl, Ext.refl _, R, h0⟩, ?_⟩
  rintro m σ2 H2 ⟨p2, σd2, l2, rfl, e2, R2, q2⟩
  refine cT_ok R2 (turn m σd2 l2 q2) (k.mono e2).link fun b l3 p3 e3 R3 q3 => ?_
  have E3 := e2.trans e3
  cases b with
  | true =>
    unfold kWh at q3
    rw [if_pos rfl] at q3 ⊢
    refine ⟨fun σ' H' => ∃ m', m' < m ∧ ∃ p2 σd2 l2, p2.H = H' ∧ Ext p p2 ∧ Rel X.K p2 σ' σd2 l2 ∧ Iv m' σd2 l2, fun σ' H' h => h, cS_ok R3 q3 ?_⟩
    exact ⟨fun p' σ' σd' l' e R ⟨m', hm, q⟩ => ⟨m', hm, p', σd', l', rfl, E3.trans e, R, q⟩, fun p' a b c e => k.nx p' a b c (E3.trans e), fun p' σ' σd' l' e R ⟨m', hm, q⟩ => ⟨m', hm, p', σd', l', rfl, E3.trans e, R, q⟩,
      fun p' a b c e => k.rt p' a b c (E3.trans e), fun p' a b c d f g e => k.ex p' a b c d f g (E3.trans e)⟩
  | false =>
    unfold kWh at q3
    rw [if_neg Bool.false_ne_true] at q3 ⊢
    exact k.nx p3 σ2 σd2 l3 E3 R3 q3
end

/-! ### list comprehensions -/
def wipeD (σ : SS) : List Nat → SS
  | [] => σ
  | v :: vs => (wipeD σ vs).set v none
theorem Slots.wipe {K : PySem.W.Frag} {p : Pt} {σ : St} {σd : SS} (h : Slots K p σd σ) : ∀ vs : List Nat, Slots K p (wipeD σd vs) (wipe σ vs)
  | [] => h
  | v :: vs => (Slots.wipe h vs).setNone
/-- I the invariant by the turn, what is made so far, the cells -/
def kEl (N : List D → LS → Prop) (acc : List D) (y : P) (l : LS) : Prop := match y with
  | .d y => N (acc ++ [y]) l
  | _ => False
def kTs (te : WE) (N : List D → LS → Prop) (acc : List D) (σ : SS) (b : Bool) (l : LS) : Prop := if b = true then te σ l (kEl N acc) noEx else N acc l
def kLcT (tt : WT) (te : WE) (vs : List Nat) (σ : SS) (N : List D → LS → Prop) (acc : List D) (σ2 : SS) (l : LS) : Prop := wipeD σ2 vs = wipeD σ vs ∧ tt σ2 l (kTs te N acc σ2) noEx
def lcP (I : Items) (g : WG) (tt : WT) (te : WE) (vs : List Nat) (f : Fresh) (σ : SS) (l : LS) (Q : P → LS → Prop) : Prop := ∃ Iv : Nat → List D → LS → Prop, Iv 0 [] l ∧ (∀ i acc l, Iv i acc l → I.ok l ∧ acc.length < sizeLine) ∧
  (∀ i x acc l, I.xs[i]? = some x → Iv i acc l → g (.d x) (wipeD σ vs) l (kLcT tt te vs σ (Iv (i + 1)) acc)) ∧ ∀ acc l, Iv I.xs.length acc l → freshL f acc l Q
def kLc (g : WG) (tt : WT) (te : WE) (vs : List Nat) (f : Fresh) (σ : SS) (Q : P → LS → Prop) (I : Items) (l : LS) : Prop := lcP I g tt te vs f σ l Q
def wLc (wi : WI) (g : WG) (tt : WT) (te : WE) (vs : List Nat) (f : Fresh) (σ : SS) (l : LS) (Q : P → LS → Prop) (E : EK) : Prop := wi σ l (kLc g tt te vs f σ Q) E
abbrev W0 : WX := fun _ _ _ _ => False
def QTs (X : Cx) (W : WX) (es : List Expr) (w : WT) : Prop := PTs X es (cT X.K W w)
def wYes (_ : SS) (l : LS) (Q : Bool → LS → Prop) (_ : EK) : Prop := Q true l
theorem qts_nil {X : Cx} {W : WX} : QTs X W [] wYes := by
  have h : PTs X [] tYes := pts_nil
  exact ⟨fun pins s σ H Q I ⟨p, σd, l, Qd, Ed, hH, R, hw, k, lk⟩ => h.run pins s σ H Q I (by subst hH; exact k true l p (Ext.refl p) R hw)⟩
theorem qts_one {X : Cx} {W : WX} {c : Expr} {w : WT} (h : QT X W c w) : QTs X W [c] w := pts_one h
/-! targets that store in some slots alone -/
def cGv (K : PySem.W.Frag) (vs : List Nat) (w : WG) : TG := fun v σ H Q => ∃ (p : Pt) (σd : SS) (l : LS) (d : P) (Qd : SS → LS → Prop), p.H = H ∧ Rel K p σ σd l ∧ RP K p d v ∧ w d σd l Qd ∧
  (∀ p' σ' σd' l', Ext p p' → Rel K p' σ' σd' l' → σ'.length = σ.length → (∀ i, i ∉ vs → σ'[i]? = σ[i]?) → Qd σd' l' → Q σ' p'.H)
def cGvs (K : PySem.W.Frag) (vs : List Nat) (w : WGs) : TGs := fun us σ H Q => ∃ (p : Pt) (σd : SS) (l : LS) (ds : List D) (Qd : SS → LS → Prop), p.H = H ∧ Rel K p σ σd l ∧ RDs K p ds us ∧ w ds σd l Qd ∧
  (∀ p' σ' σd' l', Ext p p' → Rel K p' σ' σd' l' → σ'.length = σ.length → (∀ i, i ∉ vs → σ'[i]? = σ[i]?) → Qd σd' l' → Q σ' p'.H)
def QGv (X : Cx) (vs : List Nat) (tg : Expr) (w : WG) : Prop := PG X tg (cGv X.K vs w)
def QGvs (X : Cx) (vs : List Nat) (ts : List Expr) (w : WGs) : Prop := PGs X ts (cGvs X.K vs w)
section
variable {X : Cx} {vs : List Nat} {e : Expr} {pos : Pos}
theorem qgv_name {i : Nat} {x : Str} (hv : i ∈ vs) (hN : X.N.Nodup) (hi : X.N[i]? = some x) (hx : Loc X.env.scope x) (hf : X.fn x = true ∨ X.env.scope.names.lookup x = some .local := by first | exact .inl rfl | exact .inr rfl | assumption) : QGv X vs (.Name x pos) (gN i) :=
  PG.imp (pg_name hN hi hx hf) fun v σ H Q ⟨p, σd, l, d, Qd, hH, R, r, hw, k⟩ => by
    subst hH
    exact k p _ _ l (Ext.refl p) (R.set r) (by simp) (fun j hj => List.getElem?_set_ne fun z => hj (by rw [← z]; exact hv)) hw
theorem qgvs_nil : QGvs X vs [] gE := PGs.imp pgs_nil fun vs σ H Q ⟨p, σd, l, ds, Qd, hH, R, r, hw, k⟩ => by
  subst hH
  cases r with
  | nil => exact ⟨rfl, k p _ _ l (Ext.refl p) R rfl (fun _ _ => rfl) hw⟩
  | cons _ _ => cases hw
theorem qgvs_cons {es : List Expr} {g : WG} {gs : WGs} (h1 : QGv X vs e g) (h2 : QGvs X vs es gs) (hs : (assignEach (e :: es) X.env).map (·.2) = assign e X.env :: (assignEach es X.env).map (·.2) := by rfl) : QGvs X vs (e :: es) (gC g gs) :=
  PGs.imp (pgs_cons h1 h2 hs) fun us σ H Q ⟨p, σd, l, ds, Qd, hH, R, r, hw, k⟩ => by
    subst hH
    cases r with
    | nil => cases hw
    | cons h r => exact ⟨_, _, rfl, p, σd, l, .d _, _, rfl, R, h, hw, fun p1 σ1 σd1 l1 e1 R1 z1 z2 q1 => ⟨p1, σd1, l1, _, _, rfl, R1, r.mono e1.hf, q1, fun p2 σ2 σd2 l2 e2 R2 y1 y2 q2 => k p2 σ2 σd2 l2 (e1.trans e2) R2 (y1.trans z1) (fun i hi => (y2 i hi).trans (z2 i hi)) q2⟩⟩
theorem qgv_tup {es : List Expr} {k : Nat} {gs : WGs} {n : Nat} (hc : X.calm = true) (h : QGvs X vs es gs) (hn : (assignEach es X.env).length = n := by rfl) (hst : (assignEach es X.env).findIdx? (·.1) = none := by rfl) : QGv X vs (.Tuple es k pos) (gT n gs) :=
  PG.imp (pg_tup hc h hn hst) fun v σ H Q ⟨p, σd, l, d, Qd, hH, R, r, hw, k⟩ => by
    subst hH
    cases d with
    | d d =>
      cases d with
      | tup ds =>
        cases r with
        | tup h1 h2 => exact ⟨_, _, rfl, h1.sq, h2.len.symm.trans hw.1, p, σd, l, ds, Qd, rfl, R, h2, hw.2, k⟩
      | _ => cases hw
    | _ => cases hw
end
theorem wipe_same {σ σ' : St} (hl : σ'.length = σ.length) : ∀ (vs ws : List Nat), (∀ i, i ∉ vs → i ∉ ws → σ'[i]? = σ[i]?) → (∀ i, i ∉ ws → (wipe σ' vs)[i]? = (wipe σ vs)[i]?)
  | [], ws, h => fun i hi => h i (by simp) hi
  | v :: vs, ws, h => fun i hi => by
    have ih := wipe_same hl vs (v :: ws) (fun i a b => by
      simp only [List.mem_cons, not_or] at b
      exact h i (by simp only [List.mem_cons, not_or]; exact ⟨b.1, a⟩) b.2)
    show ((wipe σ' vs).set v none)[i]? = ((wipe σ vs).set v none)[i]?
    have l1 : (wipe σ' vs).length = (wipe σ vs).length := by rw [wipe_length, wipe_length, hl]
    by_cases e : v = i
    · subst e
      by_cases hv : v < (wipe σ vs).length
      · rw [List.getElem?_set_self hv, List.getElem?_set_self (by rw [l1]; exact hv)]
      · rw [List.getElem?_eq_none (by rw [List.length_set, l1]; omega), List.getElem?_eq_none (by rw [List.length_set]; omega)]
    · rw [List.getElem?_set_ne e, List.getElem?_set_ne e]
      exact ih i (by simp only [List.mem_cons, not_or]; exact ⟨fun z => e z.symm, hi⟩)
theorem wipe_idem {σ σ' : St} {vs : List Nat} (hl : σ'.length = (wipe σ vs).length) (h : ∀ i, i ∉ vs → σ'[i]? = (wipe σ vs)[i]?) : wipe σ' vs = wipe σ vs := by
  apply List.ext_getElem?
  intro i
  have hl' : σ'.length = σ.length := by rw [hl, wipe_length]
  have h1 := wipe_same (σ := σ) (σ' := σ') hl' vs [] (fun i a _ => by
    rw [h i a]
    exact wipe_out a) i (by simp)
  exact h1
/-- the list that grows -/
structure Grow (K : PySem.W.Frag) (p1 p : Pt) (b0 : Addr) (acc : List D) (l : LS) : Prop where
  e : Ext p1 p
  w : WF p
  c : Cells K p l
  nF : ¬ p.F b0
  nr : b0 ∉ p.rho
  at_ : ∃ vs, p.H b0 = some (.lst vs) ∧ RDs K p acc vs
theorem Grow.start {K : PySem.W.Frag} {p1 : Pt} {b0 : Addr} {l : LS} (w : WF p1) (c : Cells K p1 l) (h : p1.H b0 = none) : Grow K p1 ⟨upd p1.H b0 (.lst []), p1.rho, p1.F⟩ b0 [] l := by
  have e : Ext p1 ⟨upd p1.H b0 (.lst []), p1.rho, p1.F⟩ := ⟨⟨[], by simp⟩, fun _ z => .inl z, fun _ z => z, fun _ z => .inl z, fun b o z _ => by
    show upd _ _ _ _ = _
    rw [upd_ne (ne_of_none z h)]; exact z, fun b o z _ => by
    show upd _ _ _ _ = _
    rw [upd_ne (ne_of_none z h)]; exact z, fun b o z => upd_some z⟩
  refine ⟨e, ⟨w.nd, fun a m => ?_, fun a m => ?_⟩, ⟨c.1, fun i d q => ?_⟩, w.nF h, w.nrho h, [], upd_same, .nil⟩
  · obtain ⟨o, z⟩ := w.hs a m
    exact upd_some z
  · obtain ⟨o, z⟩ := w.fs a m
    exact upd_some z
  · obtain ⟨b, h1, h2⟩ := c.2 i d q
    exact ⟨b, h1, h2.mono e (by show upd _ _ _ _ = _; rw [upd_ne fun z => w.nrho h (by rw [← z]; exact List.mem_of_getElem? h1)]) fun z => z⟩
theorem Grow.go {K : PySem.W.Frag} {p1 p p' : Pt} {b0 : Addr} {acc : List D} {l l' : LS} (g : Grow K p1 p b0 acc l) (e : Ext p p') (w : WF p') (c : Cells K p' l') : Grow K p1 p' b0 acc l' := by
  obtain ⟨vs, h1, h2⟩ := g.at_
  refine ⟨g.e.trans e, w, c, fun z => ?_, fun z => ?_, vs, e.keep _ _ h1 g.nr, h2.mono e.hf⟩
  · rcases e.fn b0 z with z | z | z
    · exact g.nF z
    · rw [h1] at z; cases z
    · exact g.nr z
  · rcases e.new b0 z with z | z
    · exact g.nr z
    · rw [h1] at z; cases z
theorem Grow.add {K : PySem.W.Frag} {p1 p : Pt} {b0 : Addr} {acc : List QL.D} {l : LS} {y : QL.D} {v : V} (g : Grow K p1 p b0 acc l) (n1 : p1.H b0 = none) (r : RD K p y v) : ∃ vs, p.H b0 = some (.lst vs) ∧ vs.length = acc.length ∧
    Grow K p1 ⟨upd p.H b0 (.lst (vs ++ [v])), p.rho, p.F⟩ b0 (acc ++ [y]) l := by
  obtain ⟨vs, h1, h2⟩ := g.at_
  have hf : HF p ⟨upd p.H b0 (.lst (vs ++ [v])), p.rho, p.F⟩ := ⟨fun _ z => z, fun b o z f => by
    show upd _ _ _ _ = _
    rw [upd_ne fun q => g.nF (by rw [← q]; exact f)]; exact z⟩
  refine ⟨vs, h1, h2.len.symm, ⟨g.e.pre, g.e.new, g.e.fm, g.e.fn, fun b o z n => ?_, fun b o z n => ?_, fun b o z => ?_⟩, ⟨g.w.nd, fun a m => ?_, fun a m => ?_⟩, ⟨g.c.1, fun i d q => ?_⟩, g.nF, g.nr, _, upd_same, (h2.append (.cons r .nil)).mono hf⟩
  · show upd _ _ _ _ = _
    rw [upd_ne (ne_of_none z n1)]; exact g.e.keep b o z n
  · show upd _ _ _ _ = _
    rw [upd_ne (ne_of_none z n1)]; exact g.e.keepF b o z n
  · obtain ⟨o', z'⟩ := g.e.there b o z
    exact upd_some z'
  · obtain ⟨o, z⟩ := g.w.hs a m
    exact upd_some z
  · obtain ⟨o, z⟩ := g.w.fs a m
    exact upd_some z
  · obtain ⟨b, q1, q2⟩ := g.c.2 i d q
    have nb : b ≠ b0 := fun z => g.nr (by rw [← z]; exact List.mem_of_getElem? q1)
    refine ⟨b, q1, ?_⟩
    cases d with
    | lst xs =>
      obtain ⟨nf, us, q3, q4⟩ := q2
      exact ⟨nf, us, by show upd _ _ _ _ = _; rw [upd_ne nb]; exact q3, q4.mono hf⟩
    | frz xs =>
      obtain ⟨us, q3, q4⟩ := q2
      exact ⟨us, q3.mono hf, q4.mono hf⟩
theorem Grow.end_ {K : PySem.W.Frag} {p1 p : Pt} {b0 : Addr} {acc : List QL.D} {l : LS} {f : Fresh} {Qd : P → LS → Prop} {Q : VK} (g : Grow K p1 p b0 acc l) (n1 : p1.H b0 = none) (q : freshL f acc l Qd)
    (k : ∀ d l' v p', Ext p1 p' → WF p' → Cells K p' l' → RP K p' d v → Qd d l' → Q v p'.H) : Q (.ref b0) p.H := by
  obtain ⟨vs, h1, h2⟩ := g.at_
  cases f with
  | frz =>
    have hf : HF p ⟨p.H, p.rho, fun b => p.F b ∨ b = b0⟩ := ⟨fun _ z => .inl z, fun b o z f => z⟩
    refine k (.d (.lst acc)) l (.ref b0) ⟨p.H, p.rho, fun b => p.F b ∨ b = b0⟩ ⟨g.e.pre, g.e.new, fun _ z => .inl (g.e.fm _ z), fun a z => ?_, g.e.keep, g.e.keepF, g.e.there⟩ ⟨g.w.nd, g.w.hs, fun a m => ?_⟩ ⟨g.c.1, fun i d q => ?_⟩ (show RP K ⟨p.H, p.rho, fun b => p.F b ∨ b = b0⟩ (.d (.lst acc)) (.ref b0) from RD.lst ⟨Or.inr rfl, h1⟩ (h2.mono hf)) q
    · rcases z with z | z
      · exact g.e.fn a z
      · exact .inr (.inl (by rw [z]; exact n1))
    · rcases m with m | m
      · exact g.w.fs a m
      · exact ⟨_, by rw [m]; exact h1⟩
    · obtain ⟨b, q1, q2⟩ := g.c.2 i d q
      have nb : b ≠ b0 := fun z => g.nr (by rw [← z]; exact List.mem_of_getElem? q1)
      refine ⟨b, q1, ?_⟩
      cases d with
      | lst xs =>
        obtain ⟨nf, us, q3, q4⟩ := q2
        exact ⟨fun z => z.elim nf nb, us, q3, q4.mono hf⟩
      | frz xs =>
        obtain ⟨us, q3, q4⟩ := q2
        exact ⟨us, q3.mono hf, q4.mono hf⟩
  | cell =>
    have hf : HF p ⟨p.H, p.rho ++ [b0], p.F⟩ := ⟨fun _ z => z, fun b o z f => z⟩
    obtain ⟨t, ht⟩ := g.e.pre
    have q : Qd (.loc l.length) (l ++ [.lst acc]) := q
    refine k (.loc l.length) (l ++ [.lst acc]) (.ref b0) ⟨p.H, p.rho ++ [b0], p.F⟩ ⟨⟨t ++ [b0], by show p.rho ++ [b0] = _; rw [ht, List.append_assoc]⟩, fun a z => ?_, g.e.fm, g.e.fn, g.e.keep, g.e.keepF, g.e.there⟩ ⟨?_, fun a m => ?_, g.w.fs⟩ ⟨by simp [g.c.1], fun i d q => ?_⟩
      (show RP K ⟨p.H, p.rho ++ [b0], p.F⟩ (.loc l.length) (.ref b0) from ⟨b0, by
        show (p.rho ++ [b0])[l.length]? = some b0
        rw [g.c.1, List.getElem?_append_right (Nat.le_refl _)]
        simp, rfl⟩) q
    · rcases List.mem_append.mp z with z | z
      · exact g.e.new a z
      · simp at z
        exact .inr (by rw [z]; exact n1)
    · show (p.rho ++ [b0]).Nodup
      rw [List.nodup_append]
      refine ⟨g.w.nd, by simp, fun x hx y hy e => ?_⟩
      simp at hy
      subst hy; subst e
      exact g.nr hx
    · rcases List.mem_append.mp m with m | m
      · exact g.w.hs a m
      · simp at m
        exact ⟨_, by rw [m]; exact h1⟩
    · by_cases hi : i < l.length
      · rw [List.getElem?_append_left hi] at q
        obtain ⟨b, q1, q2⟩ := g.c.2 i d q
        refine ⟨b, ?_, ?_⟩
        · show (p.rho ++ [b0])[i]? = _
          rw [List.getElem?_append_left (by rw [← g.c.1]; exact hi)]
          exact q1
        · cases d with
          | lst xs =>
            obtain ⟨nf, us, q3, q4⟩ := q2
            exact ⟨nf, us, q3, q4.mono hf⟩
          | frz xs =>
            obtain ⟨us, q3, q4⟩ := q2
            exact ⟨us, q3.mono hf, q4.mono hf⟩
      · have hi' : i = l.length := by
          have := (List.getElem?_eq_some_iff.mp q).1
          simp at this
          omega
        subst hi'
        rw [List.getElem?_append_right (Nat.le_refl _)] at q
        simp at q
        subst q
        refine ⟨b0, ?_, g.nF, vs, h1, h2.mono hf⟩
        show (p.rho ++ [b0])[l.length]? = _
        rw [g.c.1, List.getElem?_append_right (Nat.le_refl _)]
        simp
section
variable {X : Cx} {W : WX} {elt tg iter : Expr} {ifs : List Expr} {scope : Scope} {own : List (Str × Nat)} {pos : Pos} {wi : WI} {g : WG} {tt : WT} {te : WE}
theorem lc_ok {f : Fresh} {σ : St} {H : Hp} {Q : VK} (h : cE X.K W (wLc wi g tt te (own.map (·.2)) f) σ H Q) : tLc (cI X.K W wi) (cGv X.K (own.map (·.2)) g) (cT X.K W0 tt) (cE X.K W0 te) (own.map (·.2)) σ H Q := by
  obtain ⟨p, σd, l, Qd, Ed, hH, R, hw, k, lk⟩ := h
  subst hH
  refine cI_ok R hw lk fun I l1 J p1 e1 R1 it q1 D hD => ?_
  obtain ⟨Iv, h0, hok, hturn, hend⟩ := q1
  refine ⟨fun i m H' => m = I.xs.length - i ∧ i ≤ I.xs.length ∧ ∃ p2 l2 acc, p2.H = H' ∧ Grow X.K p1 p2 D acc l2 ∧ Iv i acc l2, ⟨_, rfl, Nat.zero_le _, _, l1, [], rfl, Grow.start R1.wf R1.ce hD, h0⟩, ?_⟩
  rintro i m H2 ⟨rfl, hi, p2, l2, acc, rfl, G2, q2⟩
  obtain ⟨ok2, sz2⟩ := hok _ _ _ q2
  obtain ⟨i1, i2, i3⟩ := it p2 l2 G2.e G2.w G2.c ok2 i
  by_cases hlt : i < I.xs.length
  · refine .inr ⟨i2 hlt, fun H' => ∃ p2 l2 acc, p2.H = H' ∧ Grow X.K p1 p2 D acc l2 ∧ Iv (i + 1) acc l2, fun H' hN => ⟨I.xs.length - (i + 1), by omega, rfl, hlt, hN⟩, fun x H' hy => ?_⟩
    obtain ⟨p3, rfl, e3, w3, c3, r3⟩ := i3 x H' _ (List.getElem?_eq_getElem hlt) hy
    have G3 := G2.go e3 w3 c3
    have R3 : Rel X.K p3 (wipe σ (own.map (·.2))) (wipeD σd (own.map (·.2))) l2 := ⟨w3, ((R1.sl.mono G3.e).wipe _), c3⟩
    refine ⟨p3, _, l2, .d _, _, rfl, R3, r3, hturn i _ acc l2 (List.getElem?_eq_getElem hlt) q2, fun p4 σ4 σd4 l4 e4 R4 z1 z2 q4 => ⟨wipe_idem z1 z2, ?_⟩⟩
    have G4 := G3.go e4 R4.wf R4.ce
    refine cT_ok R4 q4.2 LinkE.never fun b l5 p5 e5 R5 q5 => ?_
    have G5 := G4.go e5 R5.wf R5.ce
    cases b with
    | true =>
      unfold kTs at q5
      rw [if_pos rfl] at q5 ⊢
      refine cE_ok R5 q5 LinkE.never fun y l6 v p6 e6 R6 r6 q6 => ?_
      have G6 := G5.go e6 R6.wf R6.ce
      unfold kEl at q6
      split at q6
      · rename_i y
        obtain ⟨vs, h1, h2, G7⟩ := G6.add hD r6
        exact ⟨vs, h1, by rw [h2]; exact sz2, _, l6, _, rfl, G7, q6⟩
      · exact q6.elim
    | false =>
      unfold kTs at q5
      rw [if_neg Bool.false_ne_true] at q5 ⊢
      exact ⟨p5, l5, acc, rfl, G5, q5⟩
  · have : i = I.xs.length := by omega
    subst this
    exact .inl ⟨i1 (Nat.le_refl _), G2.end_ hD (hend _ _ q2) fun d l' v p' e' w' c' r' q' => k d l' v p' (e1.trans e') (R1.ext e' w' c') r' q'⟩
theorem qe_lc {f : Fresh} (hc : X.calm = true) (hN : X.N.Nodup) (hi : QI X W tg iter wi) (ok : BlkOk X.N X.env.scope scope own)
    (hg : ∀ (s : Shared) (H : Hp) (C : Addr) (cl : List (Str × Addr)) (fp : List Addr), QGv (X.blk s H scope (compEnvC scope cl C X.env) fp) (own.map (·.2)) tg g) (ht : ∀ (s : Shared) (H : Hp) (C : Addr) (cl : List (Str × Addr)) (fp : List Addr), QTs (X.blk s H scope (compEnvC scope cl C X.env) fp) W0 ifs tt)
    (he : ∀ (s : Shared) (H : Hp) (C : Addr) (cl : List (Str × Addr)) (fp : List Addr), QE (X.blk s H scope (compEnvC scope cl C X.env) fp) W0 elt te) (hs : ∀ x, foldedSetIterable iter X.env x = pure x := by intro _; rfl) :
    QE X W (.ListComp elt [⟨tg, iter, ifs, 0⟩] scope pos) (wLc wi g tt te (own.map (·.2)) f) :=
  PE.imp (pe_lc (own := own) (g := cGv X.K (own.map fun q : Str × Nat => q.2) g) (tt := cT X.K W0 tt) (te := cE X.K W0 te) hc hN hi ok hg ht he hs) fun σ H Q h => lc_ok h
theorem qs_setLc {f : Fresh} {i : Nat} {y : Str} {py spos : Pos} (hc : X.calm = true) (hN : X.N.Nodup) (hy : X.N[i]? = some y) (hyl : X.env.scope.names.lookup y = some .local)
    (hsw : swapsWith (.ListComp elt [⟨tg, iter, ifs, 0⟩] scope pos) (some (.Name y py)) spos.line X.env = pure true) (hi : QI X W tg iter wi) (ok : BlkOk X.N X.env.scope scope own)
    (hg : ∀ (s : Shared) (H : Hp) (C : Addr) (cl : List (Str × Addr)) (fp : List Addr), QGv (X.blk s H scope (compEnvC scope cl C X.env) fp) (own.map (·.2)) tg g) (ht : ∀ (s : Shared) (H : Hp) (C : Addr) (cl : List (Str × Addr)) (fp : List Addr), QTs (X.blk s H scope (compEnvC scope cl C X.env) fp) W0 ifs tt)
    (he : ∀ (s : Shared) (H : Hp) (C : Addr) (cl : List (Str × Addr)) (fp : List Addr), QE (X.blk s H scope (compEnvC scope cl C X.env) fp) W0 elt te) (hs : ∀ x, foldedSetIterable iter X.env x = pure x := by intro _; rfl) :
    QS X W (.Assign [.Name y py] (.ListComp elt [⟨tg, iter, ifs, 0⟩] scope pos) spos) (wAsg (wLc wi g tt te (own.map (·.2)) f) (gN i)) :=
  PS.imp (ps_setLc (own := own) (g := cGv X.K (own.map fun q : Str × Nat => q.2) g) (tt := cT X.K W0 tt) (te := cE X.K W0 te) hc hN hy hyl hsw hi ok hg ht he hs) fun D σ H ⟨p, σd, l, Dd, hH, R, hw, k⟩ => by
    subst hH
    exact lc_ok (X := X) (W := W) (cE_ok R hw k.link fun x l1 v p1 e1 R1 r1 q1 => k.nx p1 _ _ l1 e1 (R1.set r1) q1)
end
/-! ### defs -/
abbrev FS := List P → LS → (P → LS → Prop) → EK → Prop
/-- a def's promise over plain data: p has the arguments' cells alone -/
def spQ (K : PySem.W.Frag) (n : Nat) (fs : FS) : Sp := fun vs H Q E => ∃ (p : Pt) (ds : List P) (l : LS) (Qd : P → LS → Prop) (Ed : EK), p.H = H ∧ WF p ∧ Cells K p l ∧ RPs K p ds vs ∧ ds.length = n ∧ fs ds l Qd Ed ∧
  (∀ d l' v p', Ext p p' → WF p' → Cells K p' l' → RP K p' d v → Qd d l' → Q v p'.H) ∧ (∀ ex l' cls dd p', Ext p p' → WF p' → Cells K p' l' → XR K p' ex cls dd → Ed ex l' → E cls dd p'.H)
/-- what comes back: the arguments' cells, then the cell of a new list that is handed back -/
def retN (n : Nat) (Qd : P → LS → Prop) (r : P) (l : LS) : Prop := match r with
  | .d x => Qd (.d x) (l.take n)
  | .loc j => if j < n then Qd (.loc j) (l.take n) else match l[j]? with
    | some c => Qd (.loc n) (l.take n ++ [c])
    | none => False
  | .exc _ _ _ _ => False
def kEnd (n : Nat) (Qd : P → LS → Prop) (_ : SS) (l : LS) : Prop := retN n Qd (.d .non) l
def kNever (_ : SS) (_ : LS) : Prop := False
def kEx (Ed : EK) (ex : Ex) (_ : SS) (l : LS) : Prop := Ed ex l
theorem CellOk.hf {K : PySem.W.Frag} {p p' : Pt} {c : Cell} {b : Addr} (h : CellOk K p c b) (e : HF p p') (k : p'.H b = p.H b) (kf : p'.F b → p.F b) : CellOk K p' c b := by
  cases c with
  | lst xs =>
    obtain ⟨nf, vs, h1, h2⟩ := h
    exact ⟨fun z => nf (kf z), vs, by rw [k]; exact h1, h2.mono e⟩
  | frz xs =>
    obtain ⟨vs, h1, h2⟩ := h
    exact ⟨vs, h1.mono e, h2.mono e⟩
theorem cut_ok {K : PySem.W.Frag} {p p' : Pt} {l : LS} (e : Ext p p') (w : WF p') (c : Cells K p' l) : ∃ p2 : Pt, p2.H = p'.H ∧ p2.F = p'.F ∧ p2.rho = p.rho ∧ Ext p p2 ∧ WF p2 ∧ Cells K p2 (l.take p.rho.length) ∧ HF p' p2 := by
  obtain ⟨t, ht⟩ := e.pre
  refine ⟨⟨p'.H, p.rho, p'.F⟩, rfl, rfl, rfl, ⟨⟨[], by simp⟩, fun _ z => .inl z, e.fm, e.fn, e.keep, e.keepF, e.there⟩, ⟨?_, fun a m => w.hs a (by rw [ht]; exact List.mem_append_left _ m), w.fs⟩, ⟨?_, fun i d q => ?_⟩, ⟨fun _ z => z, fun _ _ z _ => z⟩⟩
  · have nd := w.nd
    rw [ht, List.nodup_append] at nd
    exact nd.1
  · rw [List.length_take, c.1, ht, List.length_append]
    show min p.rho.length (p.rho.length + t.length) = p.rho.length
    omega
  · have hi : i < p.rho.length := by
      have := (List.getElem?_eq_some_iff.mp q).1
      rw [List.length_take] at this
      omega
    rw [List.getElem?_take_of_lt hi] at q
    obtain ⟨a, h1, h2⟩ := c.2 i d q
    rw [ht, List.getElem?_append_left hi] at h1
    refine ⟨a, h1, ?_⟩
    exact h2.hf ⟨fun _ z => z, fun _ _ z _ => z⟩ rfl fun z => z
theorem ret_ok {K : PySem.W.Frag} {p p' : Pt} {l : LS} {r : P} {v : V} {n : Nat} {Qd : P → LS → Prop} {Q : VK} (e : Ext p p') (w : WF p') (c : Cells K p' l) (rr : RP K p' r v) (hn : p.rho.length = n) (h : retN n Qd r l)
    (k : ∀ d l' v p', Ext p p' → WF p' → Cells K p' l' → RP K p' d v → Qd d l' → Q v p'.H) : Q v p'.H := by
  subst hn
  obtain ⟨p2, hH, hF, hr, e2, w2, c2, hf⟩ := cut_ok e w c
  unfold retN at h
  split at h
  · rename_i x
    have r2 : RP K p2 (.d x) v := RD.mono hf rr
    rw [← hH]
    exact k _ _ _ _ e2 w2 c2 r2 h
  · rename_i j
    obtain ⟨a, h1, rfl⟩ := rr
    obtain ⟨t, ht⟩ := e.pre
    split at h
    · rename_i hj
      rw [← hH]
      refine k (.loc j) _ _ _ e2 w2 c2 (show RP K p2 (.loc j) (.ref a) from ⟨a, ?_, rfl⟩) h
      rw [hr]
      rw [ht, List.getElem?_append_left hj] at h1
      exact h1
    · rename_i hj
      split at h
      · rename_i cl hcl
        obtain ⟨b, h2, h3⟩ := c.2 j cl hcl
        rw [h1] at h2
        cases h2
        have na : a ∉ p.rho := fun m => by
          obtain ⟨i, hi1⟩ := List.getElem?_of_mem m
          have hi2 : i < p.rho.length := (List.getElem?_eq_some_iff.mp hi1).1
          have hi3 : p'.rho[i]? = some a := by rw [ht, List.getElem?_append_left hi2]; exact hi1
          have := nodup_at w.nd hi3 h1
          omega
        have hf3 : HF p' ⟨p'.H, p.rho ++ [a], p'.F⟩ := ⟨fun _ z => z, fun _ _ z _ => z⟩
        have pa : p.H a = none := by
          rcases e.new a (List.mem_of_getElem? h1) with z | z
          · exact absurd z na
          · exact z
        refine k (.loc p.rho.length) (l.take p.rho.length ++ [cl]) _ ⟨p'.H, p.rho ++ [a], p'.F⟩ ⟨⟨[a], rfl⟩, fun b z => ?_, e.fm, e.fn, e.keep, e.keepF, e.there⟩ ⟨?_, fun b m => ?_, w.fs⟩ ⟨?_, fun i d q => ?_⟩ (show RP K ⟨p'.H, p.rho ++ [a], p'.F⟩ (.loc p.rho.length) (.ref a) from ⟨a, by
          show (p.rho ++ [a])[p.rho.length]? = _
          rw [List.getElem?_append_right (Nat.le_refl _)]
          simp, rfl⟩) h
        · rcases List.mem_append.mp z with z | z
          · exact .inl z
          · simp at z; exact .inr (by rw [z]; exact pa)
        · show (p.rho ++ [a]).Nodup
          rw [List.nodup_append]
          refine ⟨?_, by simp, fun x hx y hy q => ?_⟩
          · have nd := w.nd
            rw [ht, List.nodup_append] at nd
            exact nd.1
          · simp at hy
            subst hy; subst q
            exact na hx
        · rcases List.mem_append.mp m with m | m
          · exact w.hs b (by rw [ht]; exact List.mem_append_left _ m)
          · simp at m
            exact w.hs b (by rw [m]; exact List.mem_of_getElem? h1)
        · have := c2.1
          rw [hr] at this
          simp [this]
        · by_cases hi : i < p.rho.length
          · have hi' : i < (l.take p.rho.length).length := by rw [c2.1, hr]; exact hi
            rw [List.getElem?_append_left hi'] at q
            obtain ⟨b, q1, q2⟩ := c2.2 i d q
            rw [hr] at q1
            refine ⟨b, ?_, ?_⟩
            · show (p.rho ++ [a])[i]? = _
              rw [List.getElem?_append_left hi]; exact q1
            · exact q2.hf ⟨fun _ z => by show p'.F _; rw [← hF]; exact z, fun b o z _ => by show p'.H b = _; rw [← hH]; exact z⟩ (by show p'.H b = _; rw [hH]) fun z => by rw [hF]; exact z
          · have hl : (l.take p.rho.length).length = p.rho.length := by rw [c2.1, hr]
            have hi' : i = p.rho.length := by
              have := (List.getElem?_eq_some_iff.mp q).1
              simp only [List.length_append, hl, List.length_singleton] at this
              omega
            subst hi'
            rw [List.getElem?_append_right (by rw [hl]; exact Nat.le_refl _), hl] at q
            simp at q
            subst q
            refine ⟨a, ?_, ?_⟩
            · show (p.rho ++ [a])[p.rho.length]? = _
              rw [List.getElem?_append_right (Nat.le_refl _)]
              simp
            · exact h3.hf hf3 rfl fun z => z
      · exact h.elim
  · exact h.elim
/-- the names at the entry -/
def startD (N : List Str) (ds : List P) : SS := ds.map some ++ List.replicate (N.length - ds.length) none
theorem start_sl {K : PySem.W.Frag} {p : Pt} {N : List Str} {ds : List P} {vs : List V} (h : RPs K p ds vs) : Slots K p (startD N ds) (L2.start N vs) := by
  have hl : ds.length = vs.length := Paired.length h
  refine ⟨by simp [startD, L2.start, hl], fun i d q => ?_⟩
  unfold startD at q
  by_cases hi : i < ds.length
  · rw [List.getElem?_append_left (by simpa using hi), List.getElem?_map] at q
    cases e : ds[i]? with
    | none => rw [e] at q; cases q
    | some d' =>
      rw [e] at q
      cases q
      have : ∀ {ds : List P} {vs : List V} {i : Nat}, RPs K p ds vs → ds[i]? = some d → ∃ v, vs[i]? = some v ∧ RP K p d v := by
        intro ds vs i h
        induction h generalizing i with
        | nil => intro e; simp at e
        | cons r _ ih =>
          intro e
          cases i with
          | zero => simp at e; subst e; exact ⟨_, rfl, r⟩
          | succ i => simpa using ih (by simpa using e)
      obtain ⟨v, g1, g2⟩ := this h e
      refine ⟨v, ?_, g2⟩
      unfold L2.start
      rw [List.getElem?_append_left (by simpa using (List.getElem?_eq_some_iff.mp g1).1), List.getElem?_map, g1]
      rfl
  · rw [List.getElem?_append_right (by simpa using hi), List.getElem?_replicate] at q
    split at q <;> cases q
section
variable {P : Program} {w : World} {K : PySem.W.Frag} {mg : Str → Option Value} {base : Heap}
open PyProof.Rows (envOfC) in
/-- THE RULE for a def -/
theorem fun_q {x qual : Str} {st : Stmt} {f : Addr} {fd : FuncData} {N ps : List Str} {k : Nat} {fs : FS} {wb : WS} (F : Fun K x qual st f fd) (S : FnScope N ps (defScope st)) (n : Nat) (hn : n = ps.length)
    (hbody : ∀ (cdv : Value) (A : Around) (outer : List Env) (s : Shared) (H : Hp) (E : XK), Room k (A.deeper (envOfC qual (defScope st) s.heap.objs.size f cdv)) →
      Takes (cxOf (L2.CX P w) P w K mg base N qual (defScope st) f cdv A outer s H E) (fun cls d _ H => E cls d H) →
      QSs (cxOf (L2.CX P w) P w K mg base N qual (defScope st) f cdv A outer s H E) (fun cls d _ H => E cls d H) (defBody st) wb)
    (hw : ∀ ds l Qd Ed, ds.length = n → fs ds l Qd Ed → wb { nx := kEnd l.length Qd, rt := retN l.length Qd, bk := kNever, ct := kNever, ex := kEx Ed } (startD N ds) l) :
    FnOk P w K mg base (L2.CX P w) (k + 1) f fd ps (spQ K n fs) := by
  refine F.okX S (fun vs H Q E h => ?_) fun cdv A outer s H vs Q E hr h => ⟨_, hbody cdv A outer s H E hr (takes_of rfl rfl rfl rfl), ?_⟩
  · obtain ⟨p, ds, l, Qd, Ed, _, _, _, r, e, _⟩ := h
    rw [← Paired.length r, e, hn]
  · obtain ⟨p, ds, l, Qd, Ed, rfl, wf, ce, r, e, hfs, kk, kx⟩ := h
    refine cS_ok ⟨wf, start_sl r, ce⟩ (hw ds l Qd Ed e hfs) ⟨fun p' σ' σd' l' e' R q => ?_, fun _ _ _ _ _ _ q => q.elim, fun _ _ _ _ _ _ q => q.elim, fun p' d v l' e' w' c' r' q => ?_, fun p' σ' σd' l' ex cls dd e' R x q => ?_⟩
    · exact ret_ok (r := .d .non) e' R.wf R.ce RD.non ce.1.symm q kk
    · exact ret_ok e' w' c' r' ce.1.symm q kk
    · exact kx ex l' cls dd p' e' R.wf R.ce x q
end
end QL
set_option Elab.async false
set_option linter.all false
set_option maxRecDepth 100000
set_option maxHeartbeats 4000000
/-! QL6: calls of own defs. -/
namespace QL
open PySem L2

def locsOf : List P → List Nat
  | [] => []
  | .loc n :: r => n :: locsOf r
  | _ :: r => locsOf r
def relab : List P → Nat → List P
  | [], _ => []
  | .loc _ :: r, i => .loc i :: relab r (i + 1)
  | x :: r, i => x :: relab r i
def pick (l : LS) : List Nat → Option LS
  | [] => some []
  | n :: ns => match l[n]?, pick l ns with
    | some c, some cs => some (c :: cs)
    | _, _ => none
def wback : LS → List Nat → LS → LS
  | l, n :: ns, c :: cs => wback (l.set n c) ns cs
  | l, _, _ => l
def callB (ns : List Nat) (l : LS) (Q : P → LS → Prop) (r : P) (cs : LS) : Prop := match r with
  | .d x => Q (.d x) (wback l ns cs)
  | .loc j => if j < ns.length then Q (.loc (ns.getD j 0)) (wback l ns cs) else if j = ns.length then (match cs[ns.length]? with
    | some c => Q (.loc l.length) (wback l ns cs ++ [c])
    | none => False) else False
  | .exc _ _ _ _ => False
def callE (ns : List Nat) (l : LS) (E : EK) (ex : Ex) (cs : LS) : Prop := E ex (wback l ns cs)
def callP (fs : FS) (vs : List P) (l : LS) (Q : P → LS → Prop) (E : EK) : Prop := match pick l (locsOf vs) with
  | some cs => (locsOf vs).Nodup ∧ fs (relab vs 0) cs (callB (locsOf vs) l Q) (callE (locsOf vs) l E)
  | none => False

theorem wback_len : ∀ (ns : List Nat) (l cs : LS), (wback l ns cs).length = l.length
  | [], l, cs => by cases cs <;> rfl
  | n :: ns, l, [] => rfl
  | n :: ns, l, c :: cs => by
    show (wback (l.set n c) ns cs).length = _
    rw [wback_len ns, List.length_set]
theorem wback_out : ∀ (ns : List Nat) (l cs : LS) (i : Nat), i ∉ ns → (wback l ns cs)[i]? = l[i]?
  | [], l, cs, i, _ => by cases cs <;> rfl
  | n :: ns, l, [], i, _ => rfl
  | n :: ns, l, c :: cs, i, h => by
    simp only [List.mem_cons, not_or] at h
    show (wback (l.set n c) ns cs)[i]? = _
    rw [wback_out ns _ cs i h.2, List.getElem?_set_ne fun e => h.1 e.symm]
theorem wback_in : ∀ (ns : List Nat) (l cs : LS) (i j : Nat) (c : Cell), ns.Nodup → ns[j]? = some i → i < l.length → cs[j]? = some c → (wback l ns cs)[i]? = some c
  | [], _, _, _, _, _, _, h, _, _ => by simp at h
  | n :: ns, l, [], i, j, c, _, _, _, h => by simp at h
  | n :: ns, l, d :: cs, i, 0, c, nd, h, hi, hc => by
    simp at h hc
    subst h; subst hc
    show (wback (l.set n d) ns cs)[n]? = _
    rw [wback_out ns _ cs n (List.nodup_cons.mp nd).1, List.getElem?_set_self hi]
  | n :: ns, l, d :: cs, i, j + 1, c, nd, h, hi, hc => by
    show (wback (l.set n d) ns cs)[i]? = _
    exact wback_in ns _ cs i j c (List.nodup_cons.mp nd).2 (by simpa using h) (by simpa using hi) (by simpa using hc)
theorem pick_get : ∀ {ns : List Nat} {l cs : LS}, pick l ns = some cs → cs.length = ns.length ∧ ∀ (j n : Nat), ns[j]? = some n → ∃ c, l[n]? = some c ∧ cs[j]? = some c
  | [], l, cs, h => by
    cases h
    exact ⟨rfl, fun j n h => by simp at h⟩
  | n :: ns, l, cs, h => by
    unfold pick at h
    split at h
    · rename_i c cs' h1 h2
      cases h
      obtain ⟨g1, g2⟩ := pick_get h2
      refine ⟨by simp [g1], fun j m hj => ?_⟩
      cases j with
      | zero => simp at hj; subst hj; exact ⟨c, h1, rfl⟩
      | succ j => simpa using g2 j m (by simpa using hj)
    · cases h
section
variable {K : PySem.W.Frag} {p : Pt} {l : LS}
/-- the addresses of some cells -/
def addrs (p : Pt) (ns : List Nat) : List Addr := ns.map fun n => p.rho.getD n 0
theorem addrs_get {ns : List Nat} {j n : Nat} {a : Addr} (h : ns[j]? = some n) (h2 : p.rho[n]? = some a) : (addrs p ns)[j]? = some a := by
  unfold addrs
  rw [List.getElem?_map, h]
  simp [List.getD, h2]
theorem relab_ok {ns : List Nat} : ∀ {vs : List P} {us : List V} {i : Nat} {t : List Nat}, RPs K p vs us → ns = t ++ locsOf vs → t.length = i → RPs K ⟨p.H, addrs p ns, p.F⟩ (relab vs i) us
  | [], _, _, _, .nil, _, _ => .nil
  | .d x :: r, _, i, t, .cons h q, e, hi => .cons (show RP K ⟨p.H, addrs p ns, p.F⟩ (.d x) _ from RD.mono (p := p) (p' := ⟨p.H, addrs p ns, p.F⟩) ⟨fun _ z => z, fun _ _ z _ => z⟩ h) (relab_ok q e hi)
  | .exc a c dd ex :: r, _, i, t, .cons h q, e, hi => .cons (show RP K ⟨p.H, addrs p ns, p.F⟩ (.exc a c dd ex) _ from ⟨h.1, XR.mono (p := p) (p' := ⟨p.H, addrs p ns, p.F⟩) ⟨fun _ z => z, fun _ _ z _ => z⟩ h.2⟩) (relab_ok q e hi)
  | .loc n :: r, _, i, t, .cons h q, e, hi => by
    obtain ⟨a, h1, rfl⟩ := h
    refine .cons (show RP K ⟨p.H, addrs p ns, p.F⟩ (.loc i) _ from ⟨a, ?_, rfl⟩) (relab_ok (t := t ++ [n]) q (by rw [e]; simp [locsOf]) (by simp [hi]))
    refine addrs_get (n := n) ?_ h1
    rw [e, List.getElem?_append_right (by omega)]
    simp [hi, locsOf]
theorem call_ok {fs : FS} {n : Nat} {vs : List P} {us : List V} {Qd : P → LS → Prop} {Ed : EK} {Q : VK} {E : XK} (w : WF p) (ce : Cells K p l) (r : RPs K p vs us) (hl : vs.length = n) (h : callP fs vs l Qd Ed)
    (k : After K p Qd Q) (kx : ∀ ex l' cls dd p', Ext p p' → WF p' → Cells K p' l' → XR K p' ex cls dd → Ed ex l' → E cls dd p'.H) : spQ K n fs us p.H Q E := by
  unfold callP at h
  split at h
  · rename_i cs hcs
    obtain ⟨nd, hfs⟩ := h
    obtain ⟨gl, gp⟩ := pick_get hcs
    generalize hns : locsOf vs = ns at *
    have lt : ∀ j m, ns[j]? = some m → ∃ a, p.rho[m]? = some a ∧ (addrs p ns)[j]? = some a := fun j m e => by
      obtain ⟨c, h1, _⟩ := gp j m e
      obtain ⟨a, h2, _⟩ := ce.2 m c h1
      exact ⟨a, h2, addrs_get e h2⟩
    have sub : ∀ a ∈ addrs p ns, ∃ (j m : Nat), ns[j]? = some m ∧ p.rho[m]? = some a ∧ (addrs p ns)[j]? = some a := fun a m => by
      obtain ⟨j, hj⟩ := List.getElem?_of_mem m
      have hj1 : j < ns.length := by
        have := (List.getElem?_eq_some_iff.mp hj).1
        simpa [addrs] using this
      obtain ⟨b, h1, h2⟩ := lt j _ (List.getElem?_eq_getElem hj1)
      rw [hj] at h2
      cases h2
      exact ⟨j, _, List.getElem?_eq_getElem hj1, h1, hj⟩
    have wc : WF ⟨p.H, addrs p ns, p.F⟩ := by
      refine ⟨?_, fun a m => ?_, w.fs⟩
      · rw [List.nodup_iff_pairwise_ne, List.pairwise_iff_getElem]
        intro i j hi hj hij e
        have h1 := List.getElem?_eq_getElem hi
        have h2 := List.getElem?_eq_getElem hj
        obtain ⟨a, q1, q2⟩ := lt i _ (List.getElem?_eq_getElem (by simpa [addrs] using hi))
        obtain ⟨b, q3, q4⟩ := lt j _ (List.getElem?_eq_getElem (by simpa [addrs] using hj))
        rw [h1] at q2
        rw [h2] at q4
        cases q2; cases q4
        rw [e] at q1
        have z := nodup_at w.nd q1 q3
        have z2 := (List.getElem_inj nd).mp z
        omega
      · obtain ⟨_, _, _, h1, _⟩ := sub a m
        exact w.hs a (List.mem_of_getElem? h1)
    have cc : Cells K ⟨p.H, addrs p ns, p.F⟩ cs := by
      refine ⟨by simp [addrs, gl], fun j c e => ?_⟩
      have hj : j < ns.length := by rw [← gl]; exact (List.getElem?_eq_some_iff.mp e).1
      obtain ⟨c', h1, h2⟩ := gp j _ (List.getElem?_eq_getElem hj)
      rw [e] at h2
      cases h2
      obtain ⟨a, h3, h4⟩ := ce.2 _ _ h1
      exact ⟨a, addrs_get (List.getElem?_eq_getElem hj) h3, h4.hf ⟨fun _ z => z, fun _ _ z _ => z⟩ rfl fun z => z⟩
    -- back in the caller
    have back : ∀ (p' : Pt) (l' : LS) (t : List Addr) (l2 : LS), Ext ⟨p.H, addrs p ns, p.F⟩ p' → WF p' → Cells K p' l' → (t = [] ∧ l2 = wback l ns l' ∨ ∃ a c, t = [a] ∧ p'.rho[ns.length]? = some a ∧ l'[ns.length]? = some c ∧ l2 = wback l ns l' ++ [c]) →
        Ext p ⟨p'.H, p.rho ++ t, p'.F⟩ ∧ WF ⟨p'.H, p.rho ++ t, p'.F⟩ ∧ Cells K ⟨p'.H, p.rho ++ t, p'.F⟩ l2 := fun p' l' t l2 e w' c' ht => by
      have hnew : ∀ a, a ∈ t → p.H a = none ∧ a ∉ p.rho ∧ ∃ o, p'.H a = some o := fun a m => by
        rcases ht with ⟨rfl, _⟩ | ⟨b, c, rfl, h1, h2, _⟩
        · simp at m
        · simp at m
          subst m
          have hn : p.H a = none := by
            rcases e.new a (List.mem_of_getElem? h1) with z | z
            · exfalso
              obtain ⟨j, hj⟩ := List.getElem?_of_mem z
              obtain ⟨u, hu⟩ := e.pre
              have hj1 : j < (addrs p ns).length := (List.getElem?_eq_some_iff.mp hj).1
              have hj2 : p'.rho[j]? = some a := by rw [hu]; exact (List.getElem?_append_left hj1).trans hj
              have := nodup_at w'.nd hj2 h1
              have hj3 : j < ns.length := by simpa [addrs] using hj1
              omega
            · exact z
          exact ⟨hn, w.nrho hn, w'.hs a (List.mem_of_getElem? h1)⟩
      have hf : HF p' ⟨p'.H, p.rho ++ t, p'.F⟩ := ⟨fun _ z => z, fun _ _ z _ => z⟩
      have E2 : Ext p ⟨p'.H, p.rho ++ t, p'.F⟩ := by
        refine ⟨⟨t, rfl⟩, fun a m => ?_, e.fm, fun a z => ?_, fun b o z n => e.keep b o z fun m => ?_, e.keepF, e.there⟩
        · rcases List.mem_append.mp m with m | m
          · exact .inl m
          · exact .inr (hnew a m).1
        · rcases e.fn a z with z | z | z
          · exact .inl z
          · exact .inr (.inl z)
          · obtain ⟨_, _, _, h1, _⟩ := sub a z
            exact .inr (.inr (List.mem_of_getElem? h1))
        · obtain ⟨_, _, _, h1, _⟩ := sub b m
          exact n (List.mem_of_getElem? h1)
      have W2 : WF ⟨p'.H, p.rho ++ t, p'.F⟩ := by
        refine ⟨?_, fun a m => ?_, w'.fs⟩
        · show (p.rho ++ t).Nodup
          rw [List.nodup_append]
          refine ⟨w.nd, ?_, fun x hx y hy q => (hnew y hy).2.1 (by rw [← q]; exact hx)⟩
          rcases ht with ⟨rfl, _⟩ | ⟨b, c, rfl, _⟩ <;> simp
        · rcases List.mem_append.mp m with m | m
          · obtain ⟨o, z⟩ := w.hs a m
            exact e.there a o z
          · exact (hnew a m).2.2
      have old : ∀ i c, (wback l ns l')[i]? = some c → ∃ a, p.rho[i]? = some a ∧ CellOk K ⟨p'.H, p.rho ++ t, p'.F⟩ c a := fun i c q => by
        have hi : i < l.length := by rw [← wback_len ns l l']; exact (List.getElem?_eq_some_iff.mp q).1
        by_cases m : i ∈ ns
        · obtain ⟨j, hj⟩ := List.getElem?_of_mem m
          obtain ⟨a, h1, h2⟩ := lt j i hj
          obtain ⟨u, hu⟩ := e.pre
          have hj1 : j < ns.length := (List.getElem?_eq_some_iff.mp hj).1
          have h3 : p'.rho[j]? = some a := by rw [hu]; exact (List.getElem?_append_left (by simpa [addrs] using hj1)).trans h2
          have hj2 : j < l'.length := by rw [c'.1]; exact (List.getElem?_eq_some_iff.mp h3).1
          have q2 := wback_in ns l l' i j _ nd hj hi (List.getElem?_eq_getElem hj2)
          rw [q] at q2
          cases q2
          obtain ⟨b, h4, h5⟩ := c'.2 j _ (List.getElem?_eq_getElem hj2)
          rw [h3] at h4
          cases h4
          exact ⟨a, h1, h5.hf hf rfl fun z => z⟩
        · rw [wback_out ns l l' i m] at q
          obtain ⟨a, h1, h2⟩ := ce.2 i c q
          have na : a ∉ addrs p ns := fun z => by
            obtain ⟨j, m', h3, h4, _⟩ := sub a z
            have := nodup_at w.nd h4 h1
            subst this
            exact m (List.mem_of_getElem? h3)
          obtain ⟨o, ho⟩ := w.hs a (List.mem_of_getElem? h1)
          refine ⟨a, h1, h2.mono E2 ((e.keep a o ho na).trans ho.symm) fun z => ?_⟩
          rcases e.fn a z with z | z | z
          · exact z
          · rw [show p.H a = none from z] at ho; cases ho
          · exact absurd z na
      refine ⟨E2, W2, ?_⟩
      have hlen : l.length = p.rho.length := ce.1
      rcases ht with ⟨rfl, rfl⟩ | ⟨a, c, rfl, h1, h2, rfl⟩
      · refine ⟨by rw [wback_len]; simp [ce.1], fun i c q => ?_⟩
        obtain ⟨a, g1, g2⟩ := old i c q
        exact ⟨a, by show (p.rho ++ [])[i]? = _; rw [List.append_nil]; exact g1, g2⟩
      · refine ⟨by simp [wback_len, ce.1], fun i d q => ?_⟩
        by_cases hi : i < l.length
        · rw [List.getElem?_append_left (by rw [wback_len]; exact hi)] at q
          obtain ⟨b, g1, g2⟩ := old i d q
          exact ⟨b, by show (p.rho ++ [a])[i]? = _; rw [List.getElem?_append_left (by omega)]; exact g1, g2⟩
        · have hi' : i = l.length := by
            have := (List.getElem?_eq_some_iff.mp q).1
            simp only [List.length_append, wback_len, List.length_singleton] at this
            omega
          subst hi'
          rw [List.getElem?_append_right (by rw [wback_len]; exact Nat.le_refl _), wback_len] at q
          simp at q
          subst q
          obtain ⟨b, g1, g2⟩ := c'.2 _ _ h2
          rw [h1] at g1
          cases g1
          exact ⟨a, by show (p.rho ++ [a])[l.length]? = _; rw [hlen, List.getElem?_append_right (Nat.le_refl _)]; simp, g2.hf hf rfl fun z => z⟩
    refine ⟨⟨p.H, addrs p ns, p.F⟩, relab vs 0, cs, _, _, rfl, wc, cc, relab_ok (t := []) r (by simp [hns]) rfl, ?_, hfs, fun d l' v p' e w' c' r' q => ?_, fun ex l' cls dd p' e w' c' x q => ?_⟩
    · rw [← hl]
      have : ∀ (vs : List P) (i : Nat), (relab vs i).length = vs.length := by
        intro vs
        induction vs with
        | nil => intro i; rfl
        | cons v r ih => intro i; cases v <;> simp [relab, ih]
      exact this vs 0
    · unfold callB at q
      split at q
      · rename_i x
        obtain ⟨E2, W2, C2⟩ := back p' l' [] _ e w' c' (.inl ⟨rfl, rfl⟩)
        exact k (.d x) _ v ⟨p'.H, p.rho ++ [], p'.F⟩ E2 W2 C2 (show RP K ⟨p'.H, p.rho ++ [], p'.F⟩ (.d x) v from RD.mono (p := p') (p' := ⟨p'.H, p.rho ++ [], p'.F⟩) ⟨fun _ z => z, fun _ _ z _ => z⟩ r') q
      · rename_i j
        obtain ⟨a, h1, rfl⟩ := r'
        split at q
        · rename_i hj
          obtain ⟨E2, W2, C2⟩ := back p' l' [] _ e w' c' (.inl ⟨rfl, rfl⟩)
          obtain ⟨b, h2, h3⟩ := lt j _ (List.getElem?_eq_getElem hj)
          obtain ⟨u, hu⟩ := e.pre
          have h4 : p'.rho[j]? = some b := by rw [hu]; exact (List.getElem?_append_left (by simpa [addrs] using hj)).trans h3
          rw [h1] at h4
          cases h4
          refine k (.loc (ns.getD j 0)) _ (.ref a) ⟨p'.H, p.rho ++ [], p'.F⟩ E2 W2 C2 (show RP K ⟨p'.H, p.rho ++ [], p'.F⟩ (.loc (ns.getD j 0)) (.ref a) from ⟨a, ?_, rfl⟩) q
          show (p.rho ++ [])[ns.getD j 0]? = _
          rw [List.append_nil, List.getD_eq_getElem?_getD, List.getElem?_eq_getElem hj]
          exact h2
        · rename_i hj
          split at q
          · rename_i hjn
            subst hjn
            split at q
            · rename_i c hc
              obtain ⟨b, g1, g2⟩ := c'.2 _ _ hc
              rw [h1] at g1
              cases g1
              obtain ⟨E2, W2, C2⟩ := back p' l' [a] _ e w' c' (.inr ⟨a, c, rfl, h1, hc, rfl⟩)
              refine k (.loc l.length) _ (.ref a) ⟨p'.H, p.rho ++ [a], p'.F⟩ E2 W2 C2 (show RP K ⟨p'.H, p.rho ++ [a], p'.F⟩ (.loc l.length) (.ref a) from ⟨a, ?_, rfl⟩) q
              show (p.rho ++ [a])[l.length]? = _
              rw [ce.1, List.getElem?_append_right (Nat.le_refl _)]
              simp
            · exact q.elim
          · exact q.elim
      · exact q.elim
    · obtain ⟨E2, W2, C2⟩ := back p' l' [] _ e w' c' (.inl ⟨rfl, rfl⟩)
      exact kx ex _ cls dd ⟨p'.H, p.rho ++ [], p'.F⟩ E2 W2 C2 (XR.mono (p := p') (p' := ⟨p'.H, p.rho ++ [], p'.F⟩) ⟨fun _ z => z, fun _ _ z _ => z⟩ x) q
  · exact h.elim
end
/-- a def as it may be called by its name -/
def CalQ (P : Program) (w : World) (K : PySem.W.Frag) (mg : Str → Option Value) (base : Heap) (k : Nat) (x : Str) (n : Nat) (fs : FS) : Prop :=
  ∃ f fd ps, FnOk P w K mg base (L2.CX P w) k f fd ps (spQ K n fs) ∧ mg x = some (.ref f) ∧ PySem.W.keepIn K (.ref f) = true ∧ Binds K fd ps []
section
variable {X : Cx} {W : WX} {e : Expr} {es : List Expr} {ws : WA} {pos q : Pos} {x : Str} {fs : FS} {k j n : Nat}
def kCall (n : Nat) (fs : FS) (Q : P → LS → Prop) (E : EK) (vs : List P) (l : LS) : Prop := vs.length = n ∧ callP fs vs l Q E
def wCall (n : Nat) (fs : FS) (ws : WA) (σ : SS) (l : LS) (Q : P → LS → Prop) (E : EK) : Prop := ws σ l (kCall n fs Q E) E
theorem qe_call (c : CalQ X.prog X.w X.K X.mg X.base k x n fs) (hr : Room j X.A) (hk : k ≤ j) (tk : Takes X W) (hg : Gl X x) (ha : QA X W (e :: es) ws)
    (hdb : (x == ("__debug__" : Str)) = false := by decide) (he : starEach (e :: es) X.env = (false, eval e X.env) :: starEach es X.env := by rfl) (hpl : (backTo pos (starEach es X.env)).any (·.1) = false := by rfl) :
    QE X W (.Call (.Name x q) (e :: es) [] pos) (wCall n fs ws) := by
  obtain ⟨f, fd, ps, F, hm, hkp, hb⟩ := c
  refine PE.imp (pe_callS (E := fun σ => L2.WE W σ) F (hr.mono hk) hg hm hkp hb (fun σ => passAt tk σ) ha hdb he hpl) fun σ H Q ⟨p, σd, l, Qd, Ed, hH, R, hw, kk, lk⟩ => ?_
  subst hH
  exact cA_ok R hw lk fun vs l1 us p1 e1 R1 r1 q1 => call_ok R1.wf R1.ce r1 q1.1 q1.2 (fun d l' v p' e' w' c' r' q' => kk d l' v p' (e1.trans e') (R1.ext e' w' c') r' q') fun ex l' cls dd p' e' w' c' x q => lk ex l' cls dd p' (e1.trans e') (R1.ext e' w' c') x q
end
end QL
set_option Elab.async false
set_option linter.all false
set_option maxRecDepth 100000
set_option maxHeartbeats 4000000
/-! QL7: short words for the readings of defs. -/
namespace QL
open PySem L2
theorem qi_lst {X : Cx} {W : WX} {tg e : Expr} {we : WE} (h : QE X W e we) : QI X W tg e (iLst we) := qi_list h (pi_list h)
section
variable {g : WG} {tb : WS} {D : ED} {σ : SS} {l : LS}
/-- a loop over things that stay -/
theorem loopX {xs : List QL.D} (Iv : Nat → SS → LS → Prop) (h0 : Iv 0 σ l)
    (ht : ∀ i x σ l, xs[i]? = some x → Iv i σ l → g (.d x) σ l (kTurn tb D (Iv (i + 1)))) (hd : ∀ σ l, Iv xs.length σ l → D.nx σ l) : loopP ⟨xs, okAll⟩ g tb D σ l :=
  ⟨Iv, h0, fun _ _ _ _ => True.intro, ht, hd⟩
theorem loopR {lo : Int} {n : Nat} (Iv : Nat → SS → LS → Prop) (h0 : Iv 0 σ l)
    (ht : ∀ (i : Nat) σ l, i < n → Iv i σ l → g (.d (.int (lo + i))) σ l (kTurn tb D (Iv (i + 1)))) (hd : ∀ σ l, Iv n σ l → D.nx σ l) : loopP ⟨rangeD lo n, okAll⟩ g tb D σ l :=
  loopX Iv h0 (fun i x σ l e h => by
    obtain ⟨h1, rfl⟩ := rangeD_get e
    exact ht i σ l h1 h) (by rw [rangeD_len]; exact hd)
theorem loopC {lo c : Int} {n : Nat} (Iv : Nat → SS → LS → Prop) (h0 : Iv 0 σ l)
    (ht : ∀ (i : Nat) σ l, i < n → Iv i σ l → g (.d (.int (lo + i * c))) σ l (kTurn tb D (Iv (i + 1)))) (hd : ∀ σ l, Iv n σ l → D.nx σ l) : loopP ⟨rangeC lo c n, okAll⟩ g tb D σ l :=
  loopX Iv h0 (fun i x σ l e h => by
    obtain ⟨h1, rfl⟩ := rangeC_get e
    exact ht i σ l h1 h) (by rw [rangeC_len]; exact hd)
/-- a while by an invariant and a measure -/
def kMs (Iv : SS → LS → Prop) (μ : SS → LS → Nat) (m : Nat) (σ : SS) (l : LS) : Prop := ∃ m', m' < m ∧ m' = μ σ l ∧ Iv σ l
theorem whileI {wt : WT} (Iv : SS → LS → Prop) (μ : SS → LS → Nat) (h0 : Iv σ l) (h : ∀ σ l, Iv σ l → wt σ l (kWh tb D (kMs Iv μ (μ σ l)) σ) (exK D σ)) : whileP wt tb D σ l := by
  refine ⟨fun m σ l => m = μ σ l ∧ Iv σ l, ⟨_, rfl, h0⟩, ?_⟩
  rintro m σ l ⟨rfl, hi⟩
  exact h σ l hi
/-- [elt for x in xs], what an item gives may hang on the cells -/
def kIt (Iv : Nat → List QL.D → LS → Prop) (n i : Nat) (acc : List QL.D) (l : LS) : Prop := (acc.length = i ∧ i ≤ n) ∧ Iv i acc l
theorem lcI {xs : List QL.D} {te : WE} {vs : List Nat} {f : Fresh} {Q : P → LS → Prop} (Iv : Nat → List QL.D → LS → Prop) (hz : xs.length < sizeLine) (h0 : Iv 0 [] l)
    (ht : ∀ i x acc l, xs[i]? = some x → acc.length = i → Iv i acc l → g (.d x) (wipeD σ vs) l (kLcT wYes te vs σ (kIt Iv xs.length (i + 1)) acc)) (hd : ∀ acc l, acc.length = xs.length → Iv xs.length acc l → freshL f acc l Q) : lcP ⟨xs, okAll⟩ g wYes te vs f σ l Q :=
  ⟨kIt Iv xs.length, ⟨⟨rfl, Nat.zero_le _⟩, h0⟩, fun i acc l h => ⟨True.intro, by have := h.1; show acc.length < sizeLine; omega⟩, fun i x acc l e h => ht i x acc l e h.1.1 h.2, fun acc l h => hd acc l h.1.1 h.2⟩
end
/-- over a list in a cell -/
theorem lcC {xs : List D} {ok : LS → Prop} {g : WG} {σ : SS} {l : LS} {te : WE} {vs : List Nat} {f : Fresh} {Q : P → LS → Prop} (Iv : Nat → List D → LS → Prop) (hz : xs.length < sizeLine) (h0 : Iv 0 [] l) (hok : ∀ i acc l, Iv i acc l → ok l)
    (ht : ∀ i x acc l, xs[i]? = some x → acc.length = i → Iv i acc l → g (.d x) (wipeD σ vs) l (kLcT wYes te vs σ (kIt Iv xs.length (i + 1)) acc)) (hd : ∀ acc l, acc.length = xs.length → Iv xs.length acc l → freshL f acc l Q) : lcP ⟨xs, ok⟩ g wYes te vs f σ l Q :=
  ⟨kIt Iv xs.length, ⟨⟨rfl, Nat.zero_le _⟩, h0⟩, fun i acc l h => ⟨hok _ _ _ h.2, by have := h.1; show acc.length < sizeLine; omega⟩, fun i x acc l e h => ht i x acc l e h.1.1 h.2, fun acc l h => hd acc l h.1.1 h.2⟩
theorem loopA {I : Items} {g : WG} {tb : WS} {D : ED} {σ : SS} {l : LS} (Iv : Nat → SS → LS → Prop) (h0 : Iv 0 σ l) (hok : ∀ i σ l, Iv i σ l → I.ok l)
    (ht : ∀ i x σ l, I.xs[i]? = some x → Iv i σ l → g (.d x) σ l (kTurn tb D (Iv (i + 1)))) (hd : ∀ σ l, Iv I.xs.length σ l → D.nx σ l) : loopP I g tb D σ l := ⟨Iv, h0, hok, ht, hd⟩
theorem atI_m {α β : Type} {ns : List α} {f : α → β} {k : Int} {j : Nat} {x : α} (hk : k = (j : Int)) (hx : ns[j]? = some x) : atI (ns.map f) k = some (f x) := by
  subst hk
  have hj := (List.getElem?_eq_some_iff.mp hx).1
  unfold atI ixN
  rw [List.length_map, if_pos (by omega), if_pos (by omega)]
  simp [hx]
theorem atI_n {α : Type} {ns : List α} {k : Int} {j : Nat} {x : α} (hk : k = (j : Int)) (hx : ns[j]? = some x) : atI ns k = some x := by
  subst hk
  have hj := (List.getElem?_eq_some_iff.mp hx).1
  unfold atI ixN
  rw [if_pos (by omega), if_pos (by omega)]
  simp [hx]
theorem ixN_n {n j : Nat} {k : Int} (hk : k = (j : Int)) (h : j < n) : ixN n k = some j := by
  subst hk
  unfold ixN
  rw [if_pos (by omega), if_pos (by omega)]
  simp
theorem get_at {α : Type} {xs : List α} {i : Nat} (h : i < xs.length) : xs[i]? = some xs[i] := List.getElem?_eq_getElem h
theorem dOk_int {n : Nat} {i : Int} : dOk n (.int i) ↔ True := by cases n <;> simp [dOk]
theorem dOk_non {n : Nat} : dOk n .non ↔ True := by cases n <;> simp [dOk]
theorem dOk_bl {n : Nat} {b : Bool} : dOk n (.bl b) ↔ True := by cases n <;> simp [dOk]
theorem dOk_ints {n : Nat} {ns : List Int} : dOk (n + 1) (.tup (ns.map .int)) ↔ True := by
  simp only [dOk_tup, List.mem_map, forall_exists_index, and_imp, forall_apply_eq_imp_iff₂, dOk_int, implies_true]
theorem dOk_lints {n : Nat} {ns : List Int} : dOk (n + 1) (.lst (ns.map .int)) ↔ True := by
  simp only [dOk_lst, List.mem_map, forall_exists_index, and_imp, forall_apply_eq_imp_iff₂, dOk_int, implies_true]
theorem dOk_nil {n : Nat} : dOk (n + 1) (.tup []) ↔ True := by simp [dOk_tup]
theorem dOk_cons {n : Nat} {x : D} {xs : List D} : dOk (n + 1) (.tup (x :: xs)) ↔ dOk n x ∧ dOk (n + 1) (.tup xs) := by simp [dOk_tup]
theorem noB_int {i : Int} : noB (.int i) ↔ True := by simp [noB]
theorem noB_non : noB .non ↔ True := by simp [noB]
theorem noB_str {x : Str} : noB (.str x) ↔ True := by simp [noB]
theorem noB_nil : noB (.tup []) ↔ True := by simp [noB]
theorem noB_cons {x : D} {xs : List D} : noB (.tup (x :: xs)) ↔ noB x ∧ noB (.tup xs) := by simp [noB]
theorem noB_ints {ns : List Int} : noB (.tup (ns.map .int)) ↔ True := by
  simp only [noB, List.mem_map, forall_exists_index, and_imp, forall_apply_eq_imp_iff₂, implies_true]
theorem rng_snoc {α : Type} {y : Nat → α} {acc : List α} {i : Nat} (h : acc = (List.range i).map y) : acc ++ [y i] = (List.range (i + 1)).map y := by
  rw [List.range_succ, List.map_append, h]
  rfl
/-! the size of data -/
mutual
def D.sz : D → Nat
  | .tup xs => 1 + D.szs xs
  | .lst xs => 1 + D.szs xs
  | _ => 1
def D.szs : List D → Nat
  | [] => 0
  | x :: xs => x.sz + D.szs xs
end
theorem szs_app : ∀ xs ys : List D, D.szs (xs ++ ys) = D.szs xs + D.szs ys
  | [], ys => by simp [D.szs]
  | x :: xs, ys => by simp only [List.cons_append, D.szs, szs_app xs ys]; omega
theorem sz_pos (x : D) : 1 ≤ x.sz := by cases x <;> simp [D.sz]
theorem len_szs : ∀ xs : List D, xs.length ≤ D.szs xs
  | [] => Nat.le_refl _
  | x :: xs => by
    have := len_szs xs
    have := sz_pos x
    simp only [List.length_cons, D.szs]
    omega
theorem last_split {α : Type} {xs : List α} (h : xs ≠ []) : ∃ (ys : List α) (y : α), xs = ys ++ [y] ∧ xs[xs.length - 1]? = some y ∧ xs.dropLast = ys := by
  refine ⟨xs.dropLast, xs.getLast h, (List.dropLast_concat_getLast h).symm, ?_, rfl⟩
  rw [← List.getLast?_eq_getElem?, List.getLast?_eq_some_getLast h]
theorem atI_cons1 {α : Type} {x y : α} {r : List α} : atI (x :: y :: r) 1 = some y := atI_n (j := 1) rfl rfl
theorem atI_cons2 {α : Type} {x y z : α} {r : List α} : atI (x :: y :: z :: r) 2 = some z := atI_n (j := 2) rfl rfl
theorem cutTake {α : Type} {xs : List α} {k : Nat} : cutD xs none (some (k : Int)) = xs.take k := by
  unfold cutD
  rw [HT.sIx_none, HT.sIx_nat]
  simp only [List.drop_zero, Nat.sub_zero]
  rw [Nat.min_comm, ← List.take_take]
  exact List.take_of_length_le (by simp; omega)
theorem atI_cons0 {α : Type} {x : α} {r : List α} : atI (x :: r) 0 = some x := atI_n (j := 0) rfl rfl
theorem seqIx0 {n : Nat} : seqIndex? 0 (n + 1) = some 0 := by
  unfold seqIndex?
  simp
theorem ixN0 {n : Nat} : ixN (n + 1) 0 = some 0 := ixN_n (j := 0) rfl (by omega)
theorem pos_len (n : Nat) : (0 : Int) < ((n + 1 : Nat) : Int) ↔ True := ⟨fun _ => True.intro, fun _ => by omega⟩
theorem ne_len (n : Nat) : ((n + 1 : Nat) : Int) = 0 ↔ False := ⟨fun h => by omega, False.elim⟩
theorem nodup1 {n : Nat} : [n].Nodup ↔ True := by simp
theorem cut63 {α : Type} {xs : List α} {k : Nat} (h : xs.length ≤ k) : cutD xs none (some (k : Int)) = xs := by
  unfold cutD
  rw [HT.sIx_none, HT.sIx_nat]
  simp [Nat.min_eq_right h]
end QL
set_option Elab.async false
set_option linter.all false
set_option maxRecDepth 100000
set_option maxHeartbeats 4000000
/-! QL8: the law's own head. -/
namespace QL
open PySem L2
theorem rds_ints {K : PySem.W.Frag} {p : Pt} : ∀ ns : List Int, RDs K p (ns.map .int) (ns.map V.int)
  | [] => .nil
  | _ :: r => .cons (.int _) (rds_ints r)
def endD (r : P) (_ : LS) : Prop := r = .d (.bl true)
def endX : EK := fun _ _ => False
theorem end_sp {K : PySem.W.Frag} {H : Hp} {a : Addr} {ns : List Int} {fs : FS} (hO : Only H) (hS : SqL K H a (ns.map V.int)) (hfs : fs [.d (.scr (ns.map .int))] [] endD endX) :
    spQ K 1 fs [.ref a] H (fun v _ => v = .bl true) (fun _ _ _ => False) := by
  have hs : ScrAt K ⟨H, [], fun b => H b ≠ none⟩ a (ns.map V.int) := by
    rcases hS with h | h
    · refine .inl ⟨?_, h⟩
      rcases h with h | ⟨o, h⟩
      · show H a ≠ none
        rw [h]; intro e; cases e
      · show H a ≠ none
        rw [h]; intro e; cases e
    · exact .inr (.inr h)
  have wf : WF ⟨H, [], fun b => H b ≠ none⟩ := ⟨List.nodup_nil, fun a h => absurd h List.not_mem_nil, fun b hb => Option.ne_none_iff_exists'.mp hb⟩
  have ce : Cells K ⟨H, [], fun b => H b ≠ none⟩ [] := ⟨rfl, fun i c h => by simp at h⟩
  have rr : RP K ⟨H, [], fun b => H b ≠ none⟩ (.d (.scr (ns.map .int))) (.ref a) := RD.scr hs (rds_ints ns)
  refine ⟨⟨H, [], fun b => H b ≠ none⟩, _, [], endD, endX, rfl, wf, ce, .cons rr .nil, rfl, hfs, fun d l' v p' _ _ _ r q => ?_, fun ex l' cls dd p' _ _ _ _ q => q.elim⟩
  cases q
  cases r
  rfl
theorem end_cx {P : Program} {w : World} {H : Hp} {s : Shared} {e : Value} {s' : Shared} (h : L2.CX P w [] H s (fun _ _ _ => False) e s') : False := by
  obtain ⟨_, _, _, _, _, _, _, _, _, _, _, _, h⟩ := h
  exact h
theorem calq {P : Program} {w : World} {K : PySem.W.Frag} {mg : Str → Option Value} {base : Heap} {k : Nat} {x : Str} {n : Nat} {fs : FS} {f : Addr} {fd : FuncData} {st : Stmt} {ps : List Str} (F : Fun K x x st f fd) (hm : mg x = some (.ref f)) (ok : FnOk P w K mg base (L2.CX P w) k f fd ps (spQ K n fs))
    (h : ∀ (kV doc pm : Value) (an : Option Addr) (cdv ct : Value) (us : List Value), us.length = ps.length → bindArgs (PySem.W.fnOf x x (defArgs st) (defBody st) (defScope st) .none kV doc pm an cdv ct) ⟨us, []⟩ = pure (ps.zip us)) : CalQ P w K mg base k x n fs :=
  ⟨f, fd, ps, ok, hm, F.kp, F.binds h⟩
end QL
set_option Elab.async false
set_option linter.all false
set_option maxRecDepth 100000
set_option maxHeartbeats 4000000
/-! QX1: an own exception class whose __init__ begins with super().__init__('..'). -/
namespace QL
open PySem L2 PySem.Calls PyProof.Rows

/-! ### the bound __init__ is called -/
section
variable {prog : Program} {w : World} {A : Around} {E : Value → Shared → Prop} {s : Shared} {K : PySem.W.Frag} {h : Heap} {g : Array GenState} {d : Drawn} {t : Nat} {os : OsState}
theorem call_mw {B newId i : String} {bmB : List Value} {nm q : Str} {C N : Addr} {bs bm : List Value} {hdct : Bool} {sn : List Str} {sub : List Value} {ab : Bool} {col : Option Bool} {dd : Option Addr} {k0 k1 k2 k3 k5 : Option Value} {u e t0 : Addr} {rest : List Value} {Q : Value → Shared → Prop}
    (FB : ExcBaseFacts B newId i bmB) (hC : h.get? C = some (excClassObj nm q C N bs bm hdct sn sub ab col dd k0 k1 k2 k3 k5 newId)) (he : h.get? e = some (PySem.HandSPX.excO C t0)) (hu : h.get? u = some (PySem.W.kxs_mw i e)) (hrest : rest.length ≤ sizeLine)
    (hq : ∀ h' t1, (∀ b o, b ≠ e → h.get? b = some o → h'.get? b = some o) → h'.get? e = some (PySem.HandSPX.excO C t1) → Q .none ⟨h', g, d, t, os⟩) :
    wpAny (model prog w) A (call (.ref u) rest) Q E ⟨h, g, d, t, os⟩ := by
  refine wpAny_call (codeAny_of_tree ?_)
  show wpAny _ A.in1 (callAny (.ref u) ⟨rest, []⟩) _ _ _
  simp only [callAny]
  refine wpAny_bind (wpAny_load hu ?_)
  simp only [PySem.W.kxs_mw, show (Value.type "method-wrapper" == Value.type "method" || Value.type "method-wrapper" == Value.type "builtin_function_or_method" || Value.type "method-wrapper" == Value.type "method-wrapper") = true by decide, if_true]
  refine W.KFB.if_so (by decide) ?_
  refine wpAny_bind (PySem.W.check_bound_init FB.toExcCallFacts hC he rfl ?_)
  refine wpAny_bind (wpAny_pure (wpAny_pure ?_))
  refine ⟨PySem.plainId_quiet FB.init.plain _, codeAny_builtin FB.initEntry ?_⟩
  exact PySem.W.exc_init_tree (cls := .ref C) (t0 := t0) (dv := none) (c2 := .none) (c3 := .none) (b4 := .bool false) he hrest fun h' k e' _ => hq h' _ k e'
end

/-! ### the context of such an __init__ -/
def cxS (CX : CXT) (P : Program) (w : World) (K : PySem.W.Frag) (mg : Str → Option Value) (base : Heap) (N : List Str) (qual : Str) (scope : Scope) (f : Addr) (cd : Value) (cc : Addr) (A : Around) (outer : List Env) (s : Shared) (H : Hp) (E : XK) : Cx where
  prog := P
  w := w
  K := K
  mg := mg
  base := base
  A := A.deeper (PySem.W.ksEnv qual scope s.heap.objs.size f cd cc)
  N := N
  s_0 := s
  H_0 := H
  env := PySem.W.ksEnv qual scope s.heap.objs.size f cd cc
  outer := outer
  stack := PySem.W.ksEnv qual scope s.heap.objs.size f cd cc :: outer
  ex := []
  calm := true
  fn := fun _ => false
  pn := []
  xe := fun e s' => wpAny (model P w) (A.deeper (PySem.W.ksEnv qual scope s.heap.objs.size f cd cc)) (leaving (PySem.W.ksEnv qual scope s.heap.objs.size f cd cc) e) (fun _ s'' => CX outer H s E e s'') (fun e' s'' => CX outer H s E e' s'') s'
structure SupScope (N ps : List Str) (sc : Scope) : Prop where
  kind : sc.kind = .function
  co : sc.isCoroutine = false
  gen : sc.isGenerator = false
  nd : N.Nodup
  pre : N.take ps.length = ps
  par : ∀ x ∈ ps, sc.names.lookup x = some .local
  nocell : ∀ y ∈ sc.names, y.2 ≠ .cell
  free : ∀ y ∈ sc.names, y.2 = .free → y.1 = "__class__"
  sup : sc.names.lookup ("super" : Str) = some .globalImplicit
  cls : sc.names.lookup ("__class__" : Str) = some .free

theorem zip_look {x : Str} {v : Value} : ∀ {P : List Str} {vs : List Value} {i : Nat}, P.Nodup → P[i]? = some x → vs[i]? = some v → (P.zip vs).reverse.lookup x = some v
  | [], _, _, _, h, _ => by simp at h
  | _ :: _, [], _, _, _, h => by simp at h
  | p :: P, w :: vs, 0, nd, h1, h2 => by
    simp at h1 h2; subst h1; subst h2
    rw [List.zip_cons_cons, List.reverse_cons, List.lookup_append]
    have : (P.zip vs).reverse.lookup p = none := by
      rw [List.lookup_eq_none_iff]
      intro y hy
      have hy := List.of_mem_zip (List.mem_reverse.mp hy)
      have : y.1 ≠ p := fun e => (List.nodup_cons.mp nd).1 (e ▸ hy.1)
      simpa [bne_iff_ne] using fun e : p = y.1 => this e.symm
    rw [this]
    simp
  | p :: P, w :: vs, i + 1, nd, h1, h2 => by
    rw [List.zip_cons_cons, List.reverse_cons, List.lookup_append, zip_look (i := i) (List.nodup_cons.mp nd).2 (by simpa using h1) (by simpa using h2)]
    rfl
theorem inv_sup {CX : CXT} {P : Program} {w : World} {K : PySem.W.Frag} {mg : Str → Option Value} {base : Heap} {N ps : List Str} {qual : Str} {scope : Scope} {f cc : Addr} {cd : Value} {A : Around} {outer : List Env} {s : Shared} {H : Hp} {E : XK} {us : List Value} {vs : List V} {h1 : Heap} {tk : Nat} {cl : Value} {cld : Option Addr} {csl : Array (Option Value)} {C : Addr}
    (S : SupScope N ps scope) (hcell : K.lookup cc = some ⟨cl, cld, .cell (some (.ref C)), csl⟩) (hd : A.handled = none) (e0 : Env0 P w K mg base A outer s H) (hl : vs.length = ps.length) (r : Vals vs us)
    (hns : h1.Ns s.heap.objs.size (fun x => (ps.zip us).reverse.lookup x)) (hk : ∀ b o, s.heap.get? b = some o → h1.get? b = some o) :
    Inv (cxS CX P w K mg base N qual scope f cd cc A outer s H E) [] (start N vs) H { s with heap := h1, toks := tk } := by
  have hpl : ps.length ≤ N.length := by have := congrArg List.length S.pre; rw [List.length_take] at this; omega
  have noA : ∀ b : Addr, b ∉ (cxS CX P w K mg base N qual scope f cd cc A outer s H E).ex := fun b z => absurd (show b ∈ ([] : List Addr) from z) (by simp)
  have one : ∀ (x : Str) (c : Addr), ([("__class__", cc)] : List (Str × Addr)).lookup x = some c → x = "__class__" ∧ c = cc := fun x c h => by
    by_cases e : x = "__class__"
    · subst e
      simp at h
      exact ⟨rfl, h.symm⟩
    · rw [List.lookup_cons, show (x == ("__class__" : Str)) = false by simpa using e] at h
      cases h
  have hcb : base.get? cc = some ⟨cl, cld, .cell (some (.ref C)), csl⟩ := e0.mod.kin _ _ hcell
  have hcs := e0.bs _ _ hcb
  refine ⟨⟨e0.mod, S.kind, rfl, rfl, Nat.le_refl _, fun y z c h1 h2 => ?_, fun y hy => ?_, fun y c z _ => absurd (show false = true from z) (by decide), fun _ => hd, Around.frames_deeper e0.frames, .inr ⟨rfl, rfl⟩, fun b z => absurd z (noA b), e0.bs, e0.bsz, fun b _ _ => noA b, fun b z => absurd z (noA b), e0.funs, e0.frf⟩,
    rfl, e0.bare, Un.kept hk, ⟨_, hns, fun i y v h1 h2 h3 => ?_⟩, fun y c h => ?_, e0.hok.fresh (Nat.le_refl _), fun y c h => ?_, fun p hp => absurd (show p ∈ ([] : List (Addr × Obj)) from hp) (by simp), e0.hok.kept hk, ?_⟩
  · rw [(one _ _ h1).1, (one _ _ h2).1]
  · have hy : scope.names.lookup y = some .cell ∨ scope.names.lookup y = some .free := hy
    rcases hy with hy | hy
    · exact absurd rfl (S.nocell _ (PySem.mem_of_lookup hy))
    · have e : y = "__class__" := S.free (y, .free) (PySem.mem_of_lookup hy) rfl
      subst e
      exact ⟨cc, rfl⟩
  · have hi : i < vs.length := by
      unfold L2.start at h2
      by_cases hi : i < vs.length
      · exact hi
      · rw [List.getElem?_append_right (by simpa using hi)] at h2
        rw [List.getElem?_replicate] at h2
        split at h2 <;> cases h2
    have ha : vs[i]? = some v := by
      unfold L2.start at h2
      rw [List.getElem?_append_left (by simpa using hi), List.getElem?_map] at h2
      cases e : vs[i]? with
      | none => rw [e] at h2; cases h2
      | some a => rw [e] at h2; cases h2; rfl
    obtain ⟨u, hu, rv⟩ := r.get ha
    have hp : ps[i]? = some y := by
      rw [← S.pre, List.getElem?_take_of_lt (by omega)]; exact h1
    have ndP : ps.Nodup := by rw [← S.pre]; exact S.nd.sublist (List.take_sublist _ _)
    exact ⟨u, rv, .inl ⟨S.par y (List.mem_of_getElem? hp), zip_look ndP hp hu⟩⟩
  · obtain ⟨rfl, rfl⟩ := one _ _ h
    exact ⟨_, _, hk _ _ hcs.1, rfl⟩
  · obtain ⟨rfl, rfl⟩ := one _ _ h
    exact hcs.2
  · unfold L2.start
    show _ = N.length
    rw [List.length_append, List.length_map, List.length_replicate]
    omega

theorem fn_super {CX : CXT} {P : Program} {w : World} {K : PySem.W.Frag} {mg : Str → Option Value} {base : Heap} {k : Nat} {f cda cc C : Addr} {name qual msg : Str} {params : Arguments} {rest : List Stmt} {scope : Scope} {z : Nat} {p0 p1 p2 p3 p4 pz : Pos} {dV kV doc pm ct oc ccl cl : Value} {an od cdd cld : Option Addr}
    {osl ccs csl : Array (Option Value)} {vs0 : Array Value} {file : Str} {tf : Tok} {ar : Arg} {N ps : List Str} {sp : Sp}
    (lk : K.lookup f = some ⟨oc, od, .func (PySem.W.ksFn name qual params (.Expr (.Call (.Attribute (.Call (.Name "super" p0) [] [] p1) "__init__" p2) [.Constant (.str msg) z pz] [] p3) p4 :: rest) scope dV kV doc pm an (.ref cda) ct cc), osl⟩)
    (hcd : PySem.W.codeIn K (.ref cda) qual = true) (hcode : K.lookup cda = some ⟨ccl, cdd, .fields vs0, ccs⟩) (hvs : vs0[2]? = some (.str file tf)) (hfile : ((P.main.file : Str) == file) = true) (htop : (P.main.scope.names.lookup ("super" : Str)).isSome = false)
    (hcell : K.lookup cc = some ⟨cl, cld, .cell (some (.ref C)), csl⟩) (T : OexC K C) (hsi : PySem.W.ks_superIn K C C "__init__" = some (some (.builtin "ValueError.__init__"))) (hB : PySem.W.subIn K (.ref C) (.type "ValueError") = some true)
    (hop : PySem.W.nsIn K cStatics "thirdparty.any" = some none) (hmg : mg "super" = none)
    (hev : ∀ env : Env, ∃ pl : Sem Bool, eval (.Call (.Attribute (.Call (.Name "super" p0) [] [] p1) "__init__" p2) [.Constant (.str msg) z pz] [] p3) env = (do
      let ov ← attributeBase (.Call (.Name "super" p0) [] [] p1) "__init__" env (eval (.Call (.Name "super" p0) [] [] p1) env)
      standAt p2.atName
      let (f, first) ← holding [ov] (getMethod ov "__init__" pl)
      callWith p3 f first (backTo p3 (starEach [.Constant (.str msg) z pz] env)) []))
    (S : SupScope N ps scope) (hp : (params.posonlyargs ++ params.args).head? = some ar) (h0 : ps[0]? = some ar.arg) (len : ∀ vs H Q E, sp vs H Q E → vs.length = ps.length)
    (hbody : ∀ (A : Around) (outer : List Env) (s : Shared) (H : Hp) (vs : List V) (Q : VK) (E : XK), Room k (A.deeper (PySem.W.ksEnv qual scope s.heap.objs.size f (.ref cda) cc)) → sp vs H Q E →
      (∃ a vs', vs = .ref a :: vs' ∧ H a = some (exo a C none)) ∧ ∃ t, PSs (cxS CX P w K mg base N qual scope f (.ref cda) cc A outer s H E) rest t ∧ t { nx := fun _ H' => Q .non H', rt := Q } (L2.start N vs) H) :
    FnOk P w K mg base CX (k + 1) f (PySem.W.ksFn name qual params (.Expr (.Call (.Attribute (.Call (.Name "super" p0) [] [] p1) "__init__" p2) [.Constant (.str msg) z pz] [] p3) p4 :: rest) scope dV kV doc pm an (.ref cda) ct cc) ps sp := by
  refine ⟨len, fun A outer s H args us vs Q E hr e0 hb r hsp => ?_⟩
  have hl := len _ _ _ _ hsp
  have KX : K.In s.heap := e0.mod.kin.keeps fun b o e => (e0.bs b o e).1
  have lim : s.heap.NoLimit := e0.mod.nolimit.keeps fun b o e => (e0.bs b o e).1
  have hloc : ∀ y ∈ ps.zip us, scope.names.lookup y.1 = some .local := fun ⟨n, v⟩ hy => S.par n (List.of_mem_zip hy).1
  refine ks_codeAny_call_defAt hr.depth (KX _ _ lk) rfl lim (PySem.W.codeRec_of KX hcd) rfl hb S.nocell hloc (fun h₁ hns hk => ?_) S.co S.gen S.kind
  obtain ⟨⟨a, vs', rfl, ea⟩, t, ht, hq⟩ := hbody A outer s H vs Q E (hr.deeper _) hsp
  have I := inv_sup (CX := CX) (E := E) (f := f) (cd := .ref cda) (qual := qual) (tk := s.toks + (ps.zip us).length) S hcell hr.hd e0 hl r hns hk
  obtain ⟨mb, hmb, hboot⟩ := e0.mod.blt
  obtain ⟨nm, q, N0, bs, bm, sn, sub, ab, col, dd, k0, k1, k2, k3, k5, hC, hbm⟩ := T.cls
  have hcl : PySem.W.clsIn K C = some { name := nm, bases := bs, mro := .ref C :: bm, ns := N0, qualname := q, hasDict := true, slotNames := sn, subclasses := sub, abstract := ab, collection := col, hasDel := false } := by unfold PySem.W.clsIn; rw [hC] <;> rfl
  have K1 : K.In h₁ := I.kIn
  obtain ⟨t0, ho⟩ := exo_at I.hok ea
  have hself : ∃ u0 ur, us = u0 :: ur ∧ u0 = .ref a := by
    cases r with
    | @cons _ u0 _ ur ra rw' => exact ⟨u0, ur, rfl, ra⟩
  obtain ⟨u0, ur, rfl, rfl⟩ := hself
  have ndP : ps.Nodup := by rw [← S.pre]; exact S.nd.sublist (List.take_sublist _ _)
  obtain ⟨pl, hev⟩ := hev (PySem.W.ksEnv qual scope s.heap.objs.size f (.ref cda) cc)
  refine ks_wpAt_execs_cons (ks_wpAt_Expr_any (ks_wpAt_MethodCall (pl := pl) ?_ hev) ?_ ?_)
  rotate_left
  · exact I.quiet
  · rfl
  refine ks_wpAt_super_base (by exact S.sup) (by exact S.cls) (by decide) rfl (K1 _ _ lk) rfl hp rfl (K1 _ _ hcode) rfl hvs hfile htop ?_
  refine PySem.W.ks_loadName_global S.kind S.sup (loadGlobal_builtin (mg := mg) (mb := mb) ?_ hmg ?_ ((hboot _ (by decide)).trans rfl) ⟨rfl, ?_⟩)
  · exact e0.mod.glob.keeps I.bk
  · exact hmb.keeps I.bk
  have hcc1 := K1 _ _ hcell
  refine wpAny_loadName_free S.kind S.cls rfl ⟨_, hcc1, rfl⟩ ?_
  refine wpAny_loadName_local S.kind (S.par _ (List.mem_of_getElem? h0)) hns (zip_look ndP h0 rfl) ?_
  have hC1 := K1 _ _ hC
  refine ks_wpAny_isType_cls hC1 rfl ⟨rfl, ?_⟩
  have hsub : PySem.W.mroIn K C (.ref C) = some true := by
    unfold PySem.W.mroIn
    rw [hcl]
    simp
  refine ks_wpAny_call_super hC1 rfl ho rfl (fun c e => by cases e) (PySem.W.looks_mroIn K1 hsub) (fun h2 e2 k2 => ?_)
  have I2 : Inv (cxS CX P w K mg base N qual scope f (.ref cda) cc A outer s H E) [] (L2.start N (V.ref a :: vs')) H ⟨h2, s.gens, s.drawn, s.toks + (ps.zip (Value.ref a :: ur)).length, s.os⟩ := I.kept k2
  have K2 : K.In h2 := I2.kIn
  have hne : a ≠ C := by
    rintro rfl
    rw [hC1] at ho
    cases ho
  have I2a : PySem.W.InstAt h2 a _ C none := ⟨k2 _ _ ho, rfl, rfl, trivial⟩
  have hal : PySem.W.alongIn K "__init__" ((((Value.ref C) :: bm).dropWhile (· != .ref C)).drop 1) = some (some (.builtin "ValueError.__init__")) := by
    have := hsi
    unfold PySem.W.ks_superIn at this
    rw [hcl] at this
    exact this
  refine PySem.W.kxs_getMethod PySem.W.kxs_ValueError e2 (PySem.W.looks_opaque K2 hop) (l₀ := .ref C :: bm) (fun A Q E s k q => wpAny_bind ((PySem.W.looks_clsIn K2 hcl) A _ E s k (wpAny_pure q))) rfl K2 hal (I2a.type.andThen (PySem.W.looks_subIn K2 hB)) hne (by decide) ?_
  have k3 : ∀ b o, h2.get? b = some o → (h2.push (PySem.W.kxs_mw "ValueError.__init__" a)).get? b = some o := fun b o e => Heap.get?_push_of_some _ e
  have I3 : Inv (cxS CX P w K mg base N qual scope f (.ref cda) cc A outer s H E) [] (L2.start N (V.ref a :: vs')) H ⟨h2.push (PySem.W.kxs_mw "ValueError.__init__" a), s.gens, s.drawn, s.toks + (ps.zip (Value.ref a :: ur)).length + 1, s.os⟩ := I2.kept k3
  have hu3 : (h2.push (PySem.W.kxs_mw "ValueError.__init__" a)).get? h2.objs.size = some (PySem.W.kxs_mw "ValueError.__init__" a) := Heap.get?_push_at rfl rfl
  have ha : PA (cxS CX P w K mg base N qual scope f (.ref cda) cc A outer s H E) [.Constant (.str msg) z pz] (tCons (tC (.str msg)) tNil) := pa_cons pe_str pa_nil
  have I3' : Inv (cxS CX P w K mg base N qual scope f (.ref cda) cc A outer s H E) [(h2.objs.size, PySem.W.kxs_mw "ValueError.__init__" a)] (L2.start N (V.ref a :: vs')) H ⟨h2.push (PySem.W.kxs_mw "ValueError.__init__" a), s.gens, s.drawn, s.toks + (ps.zip (Value.ref a :: ur)).length + 1, s.os⟩ :=
    I3.pins_of fun p hp => by
      obtain rfl := List.mem_singleton.mp hp
      exact ⟨hu3, I2.hok.fresh (Nat.le_refl _), Nat.ne_of_gt I2.lt, I2.nofs (Nat.le_refl _), fun v e => by cases e⟩
  refine PySem.W.kxs_callWith (i := "ValueError.__init__") (x := a) (u := h2.objs.size) rfl (evalArgs_plain (thn (ha.run p3 _ _ _ H (fun vs H1 => vs = [.str msg] ∧ H1 = H) I3' ⟨rfl, rfl⟩) fun us1 s4 ⟨vs4, H4, I4, r4, e4, e5⟩ => ?_))
  subst e4
  rw [e5] at I4
  have hu4 : s4.heap.get? h2.objs.size = some (PySem.W.kxs_mw "ValueError.__init__" a) := (I4.pin (h2.objs.size, PySem.W.kxs_mw "ValueError.__init__" a) (List.mem_append_right _ (List.mem_singleton_self _))).1
  refine ⟨hu4, ?_⟩
  obtain ⟨t4, ho4⟩ := exo_at I4.hok ea
  obtain ⟨h4, g4, d4, tk4, os4⟩ := s4
  have hlen : us1.length ≤ sizeLine := by
    rw [← Paired.length r4, sizeLine_eq]
    exact (show 1 ≤ 16777216 by decide)
  refine call_mw F.excBase_ValueError (I4.kIn _ _ hC) ho4 hu4 (by simpa using hlen) fun h5 t5 k5 hx5 => ?_
  have J := I4.unpinned (pins := []) |>.write (t' := tk4) (x := a) (e := a) (o := exo a C none) (by rw [ea]; exact True.intro) (.inl rfl) k5 ⟨_, hx5⟩ (exo_ok hx5)
  have eu : upd H a (exo a C none) = H := by
    funext b
    by_cases hb : b = a
    · rw [hb, upd_same, ea]
    · rw [upd_ne hb]
  rw [eu] at J
  refine wpAt_of_wpAny (wpAny_mono (ht.run [] _ (L2.start N (V.ref a :: vs')) H _ J hq) (fun fl s' hs => ?_) fun e s' hs => hs)
  have fin : ∀ {σ' : L2.St} {H' : Hp} {v : V} {u : Value}, Inv (cxS CX P w K mg base N qual scope f (.ref cda) cc A outer s H E) [] σ' H' s' → RelV v u → Q v H' → CE outer P w H s Q u s' :=
    fun {σ' H' v u} J rv q => ⟨v, H', J.os, J.bare, J.base, J.hok, rv, q⟩
  cases fl with
  | ret u =>
    obtain ⟨v, σ', H', J, rv, q⟩ := hs
    exact fin J rv q
  | next =>
    obtain ⟨σ', H', J, q⟩ := hs
    exact fin (v := V.non) (u := Value.none) J rfl q
  | brk =>
    obtain ⟨_, _, _, q⟩ := hs
    exact False.elim q
  | cont =>
    obtain ⟨_, _, _, q⟩ := hs
    exact False.elim q
end QL
set_option Elab.async false
set_option linter.all false
set_option maxRecDepth 100000
set_option maxHeartbeats 4000000
/-! QX2: raise of an own exception, over plain data. -/
namespace QL
open PySem L2

/-- what an __init__ with plain stores keeps: ns the fields in the order of the stores -/
def spI (C : Addr) (ns : List Str) : Sp := fun vs H Q _ => ∃ (a : Addr) (ws : List V), vs = .ref a :: ws ∧ ws.length = ns.length ∧ H a = some (exo a C none) ∧
  ∀ dx, H dx = none → dx ≠ a → Q .non (upd (upd H dx (exd dx (ns.zip ws).reverse)) a (exo a C (some dx)))
/-- a class of the module that is made with n arguments -/
def MkQ (P : Program) (w : World) (K : PySem.W.Frag) (mg : Str → Option Value) (base : Heap) (k : Nat) (x : Str) (ns : List Str) : Prop :=
  ∃ fI fd ps, OexC K (clsA K x) ∧ PySem.W.findIn K (.ref (clsA K x)) "__init__" = some (some (.ref fI)) ∧ PySem.W.typeIn K (.ref fI) = some (.type "function") ∧ FnOk P w K mg base (L2.CX P w) k fI fd ps (spI (clsA K x) ns) ∧ Binds K fd ps [] ∧ mg x = some (.ref (clsA K x))
section
variable {X : Cx} {W : WX} {e : Expr} {es : List Expr} {ws : WA} {pos q pos' : Pos} {x : Str} {k j : Nat} {ns : List Str}
def kRaise (x : Str) (ns : List Str) (D : ED) (σ : SS) (vs : List P) (l : LS) : Prop := ∃ ds, asDs vs = some ds ∧ ds.length = ns.length ∧ ns.length ≤ 1000 ∧ D.ex (.own x ns.reverse ds.reverse) σ l
def wRaise (x : Str) (ns : List Str) (ws : WA) (D : ED) (σ : SS) (l : LS) : Prop := ws σ l (kRaise x ns D σ) (exK D σ)
theorem zip_rev {α β : Type} : ∀ {xs : List α} {ys : List β}, ys.length = xs.length → (xs.zip ys).reverse = xs.reverse.zip ys.reverse
  | [], [], _ => rfl
  | x :: xs, y :: ys, h => by
    have h' : ys.length = xs.length := by simpa using h
    rw [List.zip_cons_cons, List.reverse_cons, List.reverse_cons, List.reverse_cons, zip_rev h', List.zip_append (by simp [h'])]
    rfl
theorem qs_raise (hc : X.calm = true) (c : MkQ X.prog X.w X.K X.mg X.base k x ns) (hr : Room j X.A) (hk : k + 1 ≤ j) (tk : Takes X W) (hg : Gl X x) (ha : QA X W (e :: es) ws)
    (hdb : (x == ("__debug__" : Str)) = false := by decide) (he : starEach (e :: es) X.env = (false, eval e X.env) :: starEach es X.env := by rfl) (hpl : (backTo pos (starEach es X.env)).any (·.1) = false := by rfl) :
    QS X W (.Raise (some (.Call (.Name x q) (e :: es) [] pos)) none pos') (wRaise x ns ws) := by
  obtain ⟨fI, fd, ps, T, iC, tI, F1, hb, hm⟩ := c
  refine PS.imp (ps_raise hc tk (pmk_oex T iC tI F1 (hr.mono hk) hb .nil (passes_call tk fun _ _ _ _ z => z.elim) hg hm ha hdb he hpl)) fun D σ H h => ?_
  obtain ⟨p, σd, l, Dd, hH, R, hw, kk⟩ := h
  subst hH
  refine cA_ok R hw kk.link fun vs l1 us p1 e1 R1 r1 ⟨ds, eds, hl, hn, q⟩ => ?_
  have rd := asDs_ok r1 eds
  have hul : us.length = ns.length := by rw [← rd.len, hl]
  refine ⟨by rw [hul]; exact hn, fun a hna => ⟨a, us ++ [], rfl, by rw [List.append_nil]; exact hul, upd_same, fun dx hd hne => ?_⟩⟩
  have hd1 : p1.H dx = none := by rw [upd_ne hne] at hd; exact hd
  rw [List.append_nil]
  refine ⟨rfl, dx, (ns.zip us).reverse, upd_same, by rw [upd_ne hne, upd_same], hd1, ?_⟩
  have eH : upd (del (upd (upd (upd p1.H a (exo a (clsA X.K x) none)) dx (exd dx (ns.zip us).reverse)) a (exo a (clsA X.K x) (some dx))) a) dx (.xd (ns.zip us).reverse) = (p1.frz dx (.xd (ns.zip us).reverse)).H := by
    funext b
    show upd _ _ _ b = upd p1.H dx _ b
    by_cases hb : b = dx
    · rw [hb, upd_same, upd_same]
    · rw [upd_ne hb, upd_ne hb]
      by_cases hba : b = a
      · rw [hba, del_same, hna]
      · rw [del_ne hba, upd_ne hba, upd_ne hb, upd_ne hba]
  rw [eH]
  have e2 := ext_frz (p := p1) (o := .xd (ns.zip us).reverse) hd1
  have w2 := wf_frz (p := p1) (a := dx) (o := .xd (ns.zip us).reverse) R1.wf
  have R2 := R1.ext e2 w2 (Cells.frz R1.wf R1.ce hd1)
  refine kk.ex (p1.frz dx (.xd (ns.zip us).reverse)) σ σd l1 (.own x ns.reverse ds.reverse) _ _ (e1.trans e2) R2 ⟨rfl, dx, us.reverse, rfl, .inr rfl, ?_, (rd.mono e2.hf).reverse⟩ q
  show upd _ _ _ _ = _
  rw [upd_same, zip_rev hul]
end
end QL
set_option Elab.async false
set_option linter.all false
set_option maxRecDepth 100000
set_option maxHeartbeats 4000000
/-! QX3: the __init__ of an own exception class with one or two stores. -/
namespace QL
open PySem L2

/-- what of K's objects such an __init__ needs; st is the def's statement -/
structure SupI (P : Program) (K : PySem.W.Frag) (mg : Str → Option Value) (C : Addr) (st : Stmt) (qual : Str) (f : Addr) (fd : FuncData) : Prop where
  ex : ∃ (oc : Value) (od : Option Addr) (kV doc pm : Value) (an : Option Addr) (cda cc : Addr) (ct : Value) (osl : Array (Option Value)) (ccl cl : Value) (cdd cld : Option Addr) (ccs csl : Array (Option Value)) (vs0 : Array Value) (file : Str) (tf : Tok),
    fd = PySem.W.ksFn "__init__" qual (defArgs st) (defBody st) (defScope st) .none kV doc pm an (.ref cda) ct cc ∧ K.lookup f = some ⟨oc, od, .func fd, osl⟩ ∧ PySem.W.codeIn K (.ref cda) qual = true ∧
    K.lookup cda = some ⟨ccl, cdd, .fields vs0, ccs⟩ ∧ vs0[2]? = some (.str file tf) ∧ ((P.main.file : Str) == file) = true ∧ K.lookup cc = some ⟨cl, cld, .cell (some (.ref C)), csl⟩
  htop : (P.main.scope.names.lookup ("super" : Str)).isSome = false
  T : OexC K C
  hsi : PySem.W.ks_superIn K C C "__init__" = some (some (.builtin "ValueError.__init__"))
  hB : PySem.W.subIn K (.ref C) (.type "ValueError") = some true
  hop : PySem.W.nsIn K cStatics "thirdparty.any" = some none
  hmg : mg "super" = none
/-- what is read off the def's text -/
structure SupT (st : Stmt) (N ps : List Str) (rest : List Stmt) : Prop where
  bd : ∃ (p0 p1 p2 p3 p4 pz : Pos) (msg : Str) (z : Nat), defBody st = .Expr (.Call (.Attribute (.Call (.Name "super" p0) [] [] p1) "__init__" p2) [.Constant (.str msg) z pz] [] p3) p4 :: rest ∧
    (∀ env : Env, ∃ pl : Sem Bool, eval (.Call (.Attribute (.Call (.Name "super" p0) [] [] p1) "__init__" p2) [.Constant (.str msg) z pz] [] p3) env = (do
      let ov ← attributeBase (.Call (.Name "super" p0) [] [] p1) "__init__" env (eval (.Call (.Name "super" p0) [] [] p1) env)
      standAt p2.atName
      let (f, first) ← holding [ov] (getMethod ov "__init__" pl)
      callWith p3 f first (backTo p3 (starEach [.Constant (.str msg) z pz] env)) []))
  S : SupScope N ps (defScope st)
  ar : ∃ ar, ((defArgs st).posonlyargs ++ (defArgs st).args).head? = some ar ∧ ps[0]? = some ar.arg
section
variable {P : Program} {w : World} {K : PySem.W.Frag} {mg : Str → Option Value} {base : Heap} {C f : Addr} {fd : FuncData} {st : Stmt} {qual a1 a2 n1 n2 : Str} {q1 q2 q3 q4 r1 r2 r3 r4 : Pos}
theorem fn_sup {N ps : List Str} {rest : List Stmt} {sp : Sp} {k : Nat} (F : SupI P K mg C st qual f fd) (G : SupT st N ps rest) (len : ∀ vs H Q E, sp vs H Q E → vs.length = ps.length)
    (hbody : ∀ (cda cc : Addr) (A : Around) (outer : List Env) (s : Shared) (H : Hp) (vs : List V) (Q : VK) (E : XK), Room k (A.deeper (PySem.W.ksEnv qual (defScope st) s.heap.objs.size f (.ref cda) cc)) → sp vs H Q E →
      (∃ a vs', vs = .ref a :: vs' ∧ H a = some (exo a C none)) ∧ ∃ t, PSs (cxS (L2.CX P w) P w K mg base N qual (defScope st) f (.ref cda) cc A outer s H E) rest t ∧ t { nx := fun _ H' => Q .non H', rt := Q } (L2.start N vs) H) :
    FnOk P w K mg base (L2.CX P w) (k + 1) f fd ps sp := by
  obtain ⟨oc, od, kV, doc, pm, an, cda, cc, ct, osl, ccl, cl, cdd, cld, ccs, csl, vs0, file, tf, rfl, lk, hcd, hcode, hvs, hfile, hcell⟩ := F.ex
  obtain ⟨p0, p1, p2, p3, p4, pz, msg, z, eb, hev⟩ := G.bd
  obtain ⟨ar, hp, h0⟩ := G.ar
  rw [eb] at lk ⊢
  exact fn_super lk hcd hcode hvs hfile F.htop hcell F.T F.hsi F.hB F.hop F.hmg hev G.S hp h0 len fun A outer s H vs Q E hr h => hbody cda cc A outer s H vs Q E hr h
theorem init1 (F : SupI P K mg C st qual f fd) (G : SupT st ["self", a1] ["self", a1] [.Assign [.Attribute (.Name "self" q1) n1 q2] (.Name a1 q3) q4]) (h1 : PySem.W.findIn K (.ref C) n1 = some none)
    (d1 : (a1 == ("__debug__" : Str)) = false) (c1 : (a1 == ("__classdict__" : Str)) = false) : FnOk P w K mg base (L2.CX P w) 1 f fd ["self", a1] (spI C [n1]) := by
  refine fn_sup F G (fun vs H Q E h => ?_) fun cda cc A outer s H vs Q E hr h => ?_
  · obtain ⟨a, ws, rfl, hl, _⟩ := h
    simp [hl]
  · obtain ⟨a, ws, rfl, hl, ea, q⟩ := h
    obtain ⟨v, rfl⟩ : ∃ v, ws = [v] := by
      match ws, hl with
      | [v], _ => exact ⟨v, rfl⟩
    have vs0 : Vis (defScope st) "self" := .inl (G.S.par _ List.mem_cons_self)
    have vs1 : Vis (defScope st) a1 := .inl (G.S.par _ (List.mem_cons_of_mem _ List.mem_cons_self))
    refine ⟨⟨a, _, rfl, ea⟩, _, pss_one (ps_ost (pe_var (i := 0) rfl vs0) (pe_var (i := 1) rfl vs1 d1 c1)), ?_⟩
    refine ⟨v, rfl, .ref a, rfl, a, C, rfl, F.T, h1, .inl ⟨ea, fun dx hd hne => ?_⟩⟩
    exact q dx hd hne
theorem init2 (F : SupI P K mg C st qual f fd) (G : SupT st ["self", a1, a2] ["self", a1, a2] [.Assign [.Attribute (.Name "self" q1) n1 q2] (.Name a1 q3) q4, .Assign [.Attribute (.Name "self" r1) n2 r2] (.Name a2 r3) r4])
    (h1 : PySem.W.findIn K (.ref C) n1 = some none) (h2 : PySem.W.findIn K (.ref C) n2 = some none)
    (d1 : (a1 == ("__debug__" : Str)) = false) (c1 : (a1 == ("__classdict__" : Str)) = false) (d2 : (a2 == ("__debug__" : Str)) = false) (c2 : (a2 == ("__classdict__" : Str)) = false) : FnOk P w K mg base (L2.CX P w) 1 f fd ["self", a1, a2] (spI C [n1, n2]) := by
  refine fn_sup F G (fun vs H Q E h => ?_) fun cda cc A outer s H vs Q E hr h => ?_
  · obtain ⟨a, ws, rfl, hl, _⟩ := h
    simp [hl]
  · obtain ⟨a, ws, rfl, hl, ea, q⟩ := h
    obtain ⟨v, u, rfl⟩ : ∃ v u, ws = [v, u] := by
      match ws, hl with
      | [v, u], _ => exact ⟨v, u, rfl⟩
    have vs0 : Vis (defScope st) "self" := .inl (G.S.par _ List.mem_cons_self)
    have vs1 : Vis (defScope st) a1 := .inl (G.S.par _ (List.mem_cons_of_mem _ List.mem_cons_self))
    have vs2 : Vis (defScope st) a2 := .inl (G.S.par _ (List.mem_cons_of_mem _ (List.mem_cons_of_mem _ List.mem_cons_self)))
    refine ⟨⟨a, _, rfl, ea⟩, _, pss_cons (ps_ost (pe_var (i := 0) rfl vs0) (pe_var (i := 1) rfl vs1 d1 c1)) (pss_one (ps_ost (pe_var (i := 0) rfl vs0) (pe_var (i := 2) rfl vs2 d2 c2))), ?_⟩
    refine ⟨v, rfl, .ref a, rfl, a, C, rfl, F.T, h1, .inl ⟨ea, fun dx hd hne => ?_⟩⟩
    refine ⟨u, rfl, .ref a, rfl, a, C, rfl, F.T, h2, .inr ⟨dx, [(n1, v)], upd_same, by rw [upd_ne hne, upd_same], by simp, ?_⟩⟩
    have := q dx hd hne
    have e : upd (upd (upd H dx (exd dx [(n1, v)])) a (exo a C (some dx))) dx (exd dx [(n2, u), (n1, v)]) = upd (upd H dx (exd dx ([n1, n2].zip [v, u]).reverse)) a (exo a C (some dx)) := by
      funext b
      by_cases hb : b = dx
      · rw [hb, upd_same, upd_ne hne, upd_same]
        rfl
      · rw [upd_ne hb]
        by_cases hba : b = a
        · rw [hba, upd_same, upd_same]
        · rw [upd_ne hba, upd_ne hba, upd_ne hb, upd_ne hb]
    rw [e]
    exact this
end
end QL
set_option Elab.async false
set_option linter.all false
set_option maxRecDepth 100000
set_option maxHeartbeats 4000000
/-! QX4: try .. except C as n, the caught exception's fields. -/
namespace QL
open PySem L2
section
variable {X : Cx} {W : WX} {x n : Str} {c : Value} {i : Nat} {body suite : List Stmt} {b₀ : Stmt} {np pos pos' : Pos} {wb : WS} {wsu : Addr → Value → Option Addr → WS} {m : Str → Option Bool}
def noXD (_ : Ex) (_ : SS) (_ : LS) : Prop := False
def kDel (i : Nat) (Q : SS → LS → Prop) (σ : SS) (l : LS) : Prop := Q (σ.set i none) l
def dSu (i : Nat) (D : ED) : ED := { nx := kDel i D.nx, rt := D.rt, bk := kDel i D.bk, ct := kDel i D.ct, ex := noXD }
def kCatch (i : Nat) (m : Str → Option Bool) (wsu : Addr → Value → Option Addr → WS) (D : ED) (ex : Ex) (σ : SS) (l : LS) : Prop := match ex with
  | .own x ns xs => (m x = some true ∧ ∀ a cls d, wsu a cls d (dSu i D) (σ.set i (some (.exc a cls d (.own x ns xs)))) l) ∨ (m x = some false ∧ D.ex (.own x ns xs) σ l)
  | .blt _ => False
def wTry (i : Nat) (m : Str → Option Bool) (wb : WS) (wsu : Addr → Value → Option Addr → WS) (D : ED) (σ : SS) (l : LS) : Prop := wb { nx := D.nx, rt := D.rt, bk := D.bk, ct := D.ct, ex := kCatch i m wsu D } σ l
theorem Rel.setNone {K : PySem.W.Frag} {p : Pt} {σ : St} {σd : SS} {l : LS} {i : Nat} (R : Rel K p σ σd l) : Rel K p (σ.set i none) (σd.set i none) l := ⟨R.wf, R.sl.setNone, R.ce⟩
theorem qs_try_as (hs : X.stack = X.env :: X.outer) (hf : X.env.frame = some X.env.locals) (hN : X.N.Nodup) (hi : X.N[i]? = some n) (hln : X.env.kindOf n = some .local) (hc : Names X x c) (tk : Takes X W)
    (hm : ∀ y b, m y = some b → PySem.W.exmOne X.K (.ref (clsA X.K y)) c = some b)
    (hb : ∀ (W' : WX) (pn : List (Addr × Obj)) (xe : Value → Shared → Prop), Takes (X.tr pn xe) W' → PassesOwn (model X.prog X.w) X.A X.env xe → QSs (X.tr pn xe) W' body wb)
    (hsu : ∀ (a : Addr) (oe : Obj) (cls : Value) (d : Option Addr) (pn : List (Addr × Obj)), Zc cls d oe → (∃ vs, oe.data = .fields vs) → QSs (X.suite a ((a, oe) :: pn)) (fun _ _ _ _ => False) (b₀ :: suite) (wsu a cls d)) :
    QS X W (.Try body [.ExceptHandler (some (.Name x np)) (some n) (b₀ :: suite) pos'] [] [] pos) (wTry i m wb wsu) := by
  refine PS.imp (ps_try_as (tb := fun W' => cS X.K W' wb) (ts := fun a cls d => cS X.K (fun _ _ _ _ => False) (wsu a cls d)) hs hf hN hi hln hc tk hb hsu) fun D σ H ⟨p, σd, l, Dd, hH, R, hw, kk⟩ => ?_
  subst hH
  refine cS_ok R hw ⟨kk.nx, kk.bk, kk.ct, kk.rt, fun p1 σ1 σd1 l1 ex cls dd e1 R1 xr q => ?_⟩
  cases ex with
  | blt _ => exact q.elim
  | own y ns xs =>
    have ec : cls = .ref (clsA X.K y) := xr.1
    subst ec
    rcases q with ⟨h, q⟩ | ⟨h, q⟩
    · refine ⟨true, hm _ _ h, fun _ a na => ?_, fun z => absurd z (by decide)⟩
      have R2 : Rel X.K p1 (σ1.set i (some (.ref a))) (σd1.set i (some (.exc a (.ref (clsA X.K y)) dd (.own y ns xs)))) l1 := R1.set (d := .exc a (.ref (clsA X.K y)) dd (.own y ns xs)) ⟨rfl, xr⟩
      exact cS_ok R2 (q a _ dd) ⟨fun p2 σ2 σd2 l2 e2 r2 q2 => kk.nx p2 _ _ l2 (e1.trans e2) r2.setNone q2, fun p2 σ2 σd2 l2 e2 r2 q2 => kk.bk p2 _ _ l2 (e1.trans e2) r2.setNone q2, fun p2 σ2 σd2 l2 e2 r2 q2 => kk.ct p2 _ _ l2 (e1.trans e2) r2.setNone q2,
        fun p2 d v l2 e2 w2 c2 r2 q2 => kk.rt p2 d v l2 (e1.trans e2) w2 c2 r2 q2, fun _ _ _ _ _ _ _ _ _ _ z => z.elim⟩
    · exact ⟨false, hm _ _ h, fun z => absurd z (by decide), fun _ => kk.ex p1 σ1 σd1 l1 _ _ dd e1 R1 xr q⟩
/-! ### its fields -/
def kXf (a : Addr) (cls : Value) (d : Option Addr) (L : List Str) (f : Str) (Q : P → LS → Prop) (v : P) (l : LS) : Prop := ∃ x ns xs y, v = .exc a cls d (.own x ns xs) ∧ x ∈ L ∧ (ns.zip xs).lookup f = some y ∧ Q (.d y) l
def wXf (a : Addr) (cls : Value) (d : Option Addr) (L : List Str) (f : Str) (we : WE) (σ : SS) (l : LS) (Q : P → LS → Prop) (E : EK) : Prop := we σ l (kXf a cls d L f Q) E
theorem rds_look {K : PySem.W.Frag} {p : Pt} {f : Str} : ∀ {ns : List Str} {xs : List D} {vs : List V} {y : D}, RDs K p xs vs → (ns.zip xs).lookup f = some y → ∃ v, (ns.zip vs).lookup f = some v ∧ RD K p y v
  | [], _, _, _, _, h => by simp at h
  | _ :: _, [], _, _, _, h => by simp at h
  | n :: ns, x :: xs, _, y, .cons r t, h => by
    rw [List.zip_cons_cons, List.lookup_cons] at h ⊢
    by_cases e : f == n
    · rw [e] at h ⊢
      cases h
      exact ⟨_, rfl, r⟩
    · rw [Bool.not_eq_true] at e
      rw [e] at h ⊢
      exact rds_look t h
theorem qe_xf {a : Addr} {oe : Obj} {cls : Value} {d : Option Addr} {pn : List (Addr × Obj)} {e : Expr} {we : WE} {L : List Str} {f : Str} (hL : ∀ y ∈ L, XfC X.K (clsA X.K y) ∧ PySem.W.findIn X.K (.ref (clsA X.K y)) f = some none)
    (hz : Zc cls d oe) (hf : ∃ vs, oe.data = .fields vs) (he : QE (X.suite a ((a, oe) :: pn)) W e we) (hb : attributeBase e f X.env (eval e X.env) = eval e X.env := by rfl) :
    QE (X.suite a ((a, oe) :: pn)) W (.Attribute e f pos) (wXf a cls d L f we) := by
  refine ⟨fun pins s σ H Q I h => ?_⟩
  obtain ⟨p, σd, l, Qd, Ed, hH, R, hw, kk, lk⟩ := h
  subst hH
  refine attr_of hb (thn (he.run pins s σ _ (fun v H1 => ∃ (p1 : Pt) (l1 : LS) (r : P), p1.H = H1 ∧ Ext p p1 ∧ Rel X.K p1 σ σd l1 ∧ RP X.K p1 r v ∧ kXf a cls d L f Qd r l1) I (cE_ok R hw lk fun r l1 v p1 e1 R1 r1 q1 => ⟨p1, l1, r, rfl, e1, R1, r1, q1⟩)) fun u s1 hh => ?_)
  obtain ⟨v, H1, I1, ru, p1, l1, r, rfl, e1, R1, r1, x, ns, xs, y, rfl, hx, hy, q⟩ := hh
  obtain ⟨T, hno⟩ := hL x hx
  obtain ⟨rfl, rfl, dd, vs, rfl, hF, hd, rds⟩ := r1
  obtain rfl : u = Value.ref a := ru
  obtain ⟨ha, _⟩ := I1.pin (a, oe) (List.mem_append_left _ List.mem_cons_self)
  obtain ⟨vs0, hd0⟩ := hf
  have hx : ObjOk X.prog X.w p1.H s1.heap dd (.xd (ns.zip vs)) := I1.hok dd _ hd
  obtain ⟨mA, hns, hr⟩ := hx
  obtain ⟨od, ho, hl⟩ := lookIn_ns hns
  obtain ⟨v, hv, rv⟩ := rds_look rds hy
  obtain ⟨u, hu, ru⟩ := RelO.some_of (v := v) (o := mA f) (by rw [← hv]; exact hr f)
  have J : PySem.W.InstAt s1.heap a oe (clsA X.K x) (some od) := ⟨ha, hz.1, by unfold PySem.W.notCls; rw [hd0] <;> rfl, by rw [hz.2]; exact ho⟩
  exact HandSPX.exc_get I1.kIn J T.ga T.gg T.exC (PySem.W.findObj_own T.hdC hno rfl (by rw [hl, hu])) (handed_of ru) ⟨v, p1.H, I1.tok _, ru, kk (.d y) l1 v p1 e1 R1 rv q⟩
end
end QL
set_option Elab.async false
set_option linter.all false
set_option maxRecDepth 100000
set_option maxHeartbeats 4000000
/-! QX5: isinstance of a caught exception. -/
namespace PySem.W
open PySem PySem.Calls PyProof.Rows
section
variable {prog : Program} {w : World} {A : Around} {E : Value → Shared → Prop} {s : Shared} {K : Frag} {x D : Addr} {ox : Obj} {od : Option Obj}
theorem q_findObj {C : Addr} {name : Str} {a g : Value} (hc : (clsIn K C).isSome = true) (ha : findIn K (.ref C) name = some (some a)) (hg : specialIn K a "__get__" = some (some g)) (ht : takesIn K a = some true) : findObj K C od name = some (.bind g a) := by
  obtain ⟨cd, hc⟩ := Option.isSome_iff_exists.mp hc
  unfold findObj
  rw [hc, Option.bind_some, ha, Option.bind_some]
  simp [hg, ht]
theorem q_class {Q : Option Value → Shared → Prop} (T : L2.ExcC K D)
    (X : K.In s.heap) (I : InstAt s.heap x ox D od) (h : Q (some (.ref D)) { s with toks := s.toks + 1 }) : wpAny (model prog w) A (getAttr? (.ref x) "__class__") Q E s := by
  have hf : findObj K D od "__class__" = some (.bind (.builtin "getset_descriptor.__get__") (.builtin "object.__class__")) := q_findObj (by obtain ⟨cd, hc, _⟩ := any_some T.hd; rw [hc]; rfl) T.ha T.hn T.ht
  obtain ⟨hp, g, d, t, os⟩ := s
  have L0 := I.type (M := model prog w)
  have L1 := looks_findIn (M := model prog w) X T.hg
  have L2 := looks_findIn (M := model prog w) X T.hk
  have L3 := looks_find (M := model prog w) X I hf
  have sub : Looks (model prog w) hp (isInstance (.ref x) (.type "BaseException")) true := L0.andThen (looks_subIn X T.hs)
  have hx0 : (false && onTheHeap (Value.builtin "BaseException.__getattribute__")) = false := rfl
  have hx2 : (Value.builtin "BaseException.__getattribute__" == Value.builtin "object.__getattribute__") = false := by decide +kernel
  have hx1 : (onTheHeap (Value.ref D) && Value.builtin "BaseException.__getattribute__" == Value.builtin "object.__getattribute__") = false := by rw [hx2]; rfl
  unfold getAttr? getAttrBy? getAttrBy
  refine wpAny_bind (wpAny_mkText (wpAny_bind (wpAny_attempt (wpAny_holding (wpAny_bind (L0.at (wpAny_bind (L1.at ?_))))))))
  show wpAny _ _ (if (onTheHeap (Value.ref D) && Value.builtin "BaseException.__getattribute__" == Value.builtin "object.__getattribute__") = true then _ else _) _ _ _
  rw [hx1, if_neg Bool.false_ne_true]
  unfold getAttrByItsOwn hookBefore
  refine wpAny_bind ?_
  rw [if_pos (show onTheHeap (Value.ref D) = true from rfl)]
  refine L2.at ?_
  refine wpAny_bind (wpAny_attempt (wpAny_holding ?_))
  unfold callGetattribute
  rw [hx0, if_neg Bool.false_ne_true]
  unfold boundAndCalled
  rw [PySem.F.excAttr_ValueError.ga.bind (.ref x)]
  refine wpAny_bind (wpAny_pure ?_)
  show wpAny _ _ (call (.builtin "BaseException.__getattribute__") [.ref x, .str "__class__" t]) _ _ _
  refine wpAny_call (codeAny_call_builtin PySem.F.excAttr_ValueError.ga.plain PySem.F.entry_bexc_ga ?_)
  refine @check_slot (model prog w) _ _ ⟨hp, g, d, t + 1, os⟩ "BaseException.__getattribute__" "BaseException" "__getattribute__" (.ref x) [.str "__class__" t] [] _ (by decide +kernel) (by decide +kernel) sub (PySem.F.args_bexc_ga (.ref x) (.str "__class__" t)) ?_
  unfold Builtin.«object.__getattribute__»
  refine wpAny_bind (wpAny_of_eq (a := ((Value.ref x : Value), [Value.str "__class__" t])) (by first | rfl | (simp only [slotArgs]; rfl)) ?_)
  refine wpAny_bind (wpAny_pure (wpAny_bind (L0.at (wpAny_bind (L3.at ?_)))))
  show wpAny _ _ (holding [Value.builtin "object.__class__"] (call (.builtin "getset_descriptor.__get__") [.builtin "object.__class__", .ref x, .ref D]) >>= ret) _ _ _
  refine wpAny_bind (wpAny_holding (wpAny_call (class_get (s := ⟨hp, g, d, t + 1, os⟩) (ox := ox) (od := od) X I T.hm ?_)))
  refine wpAny_pure ?_
  show wpAny _ _ (handedOut (.ref D)) _ _ _
  rw [handedOut_of (v := .ref D) rfl]
  first
    | exact wpAny_pure (wpAny_pure h)
    | exact wpAny_pure h
    | exact wpAny_pure (wpAny_bind (wpAny_pure (wpAny_pure h)))
theorem q_kit (T : L2.ExcC K D) : KitX K (.ref x) (.ref D) (fun h => InstAt h x ox D od) where
  ty := fun _ _ _ I => I.type
  it := fun _ _ X _ => by
    obtain ⟨cdD, hcD, _⟩ := any_some T.hd
    unfold clsIn at hcD
    split at hcD
    · rename_i c' d' cd' sl' ho
      intro A' Q' E' s' k q
      unfold isType loadHead
      exact wpAny_bind (wpAny_loadPart (k _ _ (X _ _ ho)) (wpAny_pure q))
    · cases hcD
  ne := fun h tp dd its n sl X htp => by
    obtain ⟨cdD, hcD, _⟩ := any_some T.hd
    refine Bool.eq_false_iff.mpr fun q => ?_
    have e : D = tp := Value.ref.inj (beq_iff_eq.mp q)
    subst e
    unfold clsIn at hcD
    split at hcD
    · rename_i c' d' cd' sl' ho
      have z := (X _ _ ho).symm.trans htp
      cases z
    · cases hcD
  ca := fun X I k => q_class T X I k
end
end PySem.W
namespace QL
open PySem L2
/-- isinstance(e, c), e the exception that the suite holds; m tells the answers -/
def rIsX (K : PySem.W.Frag) (L : List Str) (m : Str → Bool) (cv : Value) (a : Addr) (cls : Value) (d : Option Addr) : List V → Hp → VK → Prop := fun xs H Q => ∃ (c : V) (y : Str) (dd : Addr) (fs : List (Str × V)), xs = [.ref a, c] ∧ (∀ u, RelV c u → u = cv) ∧
  y ∈ L ∧ cls = .ref (clsA K y) ∧ d = some dd ∧ H dd = some (.xd fs) ∧ Q (.bl (m y)) H
theorem call_isX {X : Cx} {a : Addr} {oe : Obj} {cls cv : Value} {d : Option Addr} {pn : List (Addr × Obj)} {L : List Str} {m : Str → Bool} (hL : ∀ y ∈ L, ExcC X.K (clsA X.K y) ∧ PySem.W.kitOne X.K (.ref (clsA X.K y)) cv = some (m y))
    (hz : Zc cls d oe) (hf : ∃ vs, oe.data = .fields vs) : CallR (X.suite a ((a, oe) :: pn)) (.builtin "isinstance") (rIsX X.K L m cv a cls d) := by
  intro pins s σ H xs us Q I r h
  obtain ⟨c, y, dd, fs, rfl, hcv, hy, rfl, rfl, hd, q⟩ := h
  obtain ⟨C, e⟩ := hL y hy
  cases r with
  | cons rx rr =>
    cases rr with
    | cons rt rr =>
      cases rr
      cases rx
      have ec := hcv _ rt
      subst ec
      obtain ⟨hget, _⟩ := I.pin (a, oe) (List.mem_append.mpr (.inl List.mem_cons_self))
      obtain ⟨vs, hv⟩ := hf
      have hx : ObjOk X.prog X.w H s.heap dd (.xd fs) := I.hok dd _ hd
      obtain ⟨mA, hns, hr⟩ := hx
      obtain ⟨od, ho, hl⟩ := lookIn_ns hns
      have J : PySem.W.InstAt s.heap a oe (clsA X.K y) (some od) := ⟨hget, hz.1, by unfold PySem.W.notCls; rw [hv] <;> rfl, by rw [hz.2]; exact ho⟩
      exact PySem.W.kia_one (PySem.W.q_kit C) I.kIn J e (fun z => nomatch z) fun tk => ⟨.bl (m y), H, I.kept (t' := tk) fun _ _ z => z, rfl, q⟩
section
variable {X : Cx} {W : WX} {pos q : Pos} {e c : Expr} {we : WE}
def kIsX (L : List Str) (m : Str → Bool) (a : Addr) (cls : Value) (d : Option Addr) (Q : P → LS → Prop) (v : P) (l : LS) : Prop := ∃ y ns xs, v = .exc a cls d (.own y ns xs) ∧ y ∈ L ∧ Q (.d (.bl (m y))) l
def wIsX (L : List Str) (m : Str → Bool) (a : Addr) (cls : Value) (d : Option Addr) (we : WE) (σ : SS) (l : LS) (Q : P → LS → Prop) (E : EK) : Prop := we σ l (kIsX L m a cls d Q) E
theorem qe_isX {a : Addr} {oe : Obj} {cls cv : Value} {cV : V} {d : Option Addr} {pn : List (Addr × Obj)} {L : List Str} {m : Str → Bool} (hL : ∀ y ∈ L, ExcC X.K (clsA X.K y) ∧ PySem.W.kitOne X.K (.ref (clsA X.K y)) cv = some (m y))
    (hz : Zc cls d oe) (hf : ∃ vs, oe.data = .fields vs) (he : QE (X.suite a ((a, oe) :: pn)) W e we) (hc : PE (X.suite a ((a, oe) :: pn)) c (tC cV)) (hcv : ∀ u, RelV cV u → u = cv)
    (hg : Gl (X.suite a ((a, oe) :: pn)) "isinstance") (hm : X.mg "isinstance" = none)
    (hst : starEach (e :: [c]) X.env = (false, eval e X.env) :: starEach [c] X.env := by rfl) (hst2 : starEach [c] X.env = [(false, eval c X.env)] := by rfl) (hpl : (backTo pos (starEach [c] X.env)).any (·.1) = false := by rfl) :
    QE (X.suite a ((a, oe) :: pn)) W (.Call (.Name "isinstance" q) [e, c] [] pos) (wIsX L m a cls d we) := by
  refine PE.imp (pe_callB (call_isX hL hz hf) hg hm (by rfl) (pa_cons he (pa_cons hc pa_nil hst2) hst) (by decide) (by decide) hst hpl) fun σ H Q ⟨p, σd, l, Qd, Ed, hH, R, hw, kk, lk⟩ => ?_
  subst hH
  refine cE_ok R hw lk fun r l1 v p1 e1 R1 r1 ⟨y, ns, xs, er, hy, q⟩ => ?_
  subst er
  obtain ⟨rfl, ec, dd, vs, ed, hF, hd, rds⟩ := r1
  exact ⟨cV, y, dd, _, rfl, hcv, hy, ec, ed, hd, kk (.d (.bl (m y))) l1 _ p1 e1 R1 (RD.bl _) q⟩
end
end QL
set_option Elab.async false
set_option linter.all false
set_option maxRecDepth 100000
set_option maxHeartbeats 4000000
/-! QS1: text and tuple times a number, a sign within a text. -/
namespace L2
open PySem PySem.Spec PyProof.Rows
theorem q_tuple_same (l : Addr) (items : Array Value) (n : Nat) (dd : Option Addr) (sl : Array (Option Value)) (x : Int) (u : Tok) (c0 : (decide (x < -(2 ^ 63)) || decide (x ≥ 2 ^ 63)) = false) (c1 : (items.isEmpty || x == 1) = true) :
    Meets (Builtin.«tuple.__mul__» ⟨[.ref l, .int x u], []⟩) (fun _ R s => s.heap.get? l = some { cls := .type "tuple", dict := dd, data := .seq items n, slots := sl } ∧ R (.ok (.ret (Value.ref l))) s) :=
  .of_wp fun prog w A R s h => by
    obtain ⟨hp, g, d, tk, os⟩ := s
    obtain ⟨hl, h⟩ := h
    have f1 := AutoSeq1.idx_int
    wp_walk using wpAny_loadPart' hl
    repeat (first
      | (refine wpAny_ite_false (decide_eq_false (by rw [c0]; exact Bool.false_ne_true)) ?_; wp_walk using wpAny_loadPart' hl)
      | (refine wpAny_ite_true (decide_eq_true c1) ?_; wp_walk using wpAny_loadPart' hl))
    exact ⟨_, rfl, h⟩
theorem q_tuple_nil (l : Addr) (items : Array Value) (n : Nat) (dd : Option Addr) (sl : Array (Option Value)) (x : Int) (u : Tok) (c0 : (decide (x < -(2 ^ 63)) || decide (x ≥ 2 ^ 63)) = false) (c1 : (items.isEmpty || x == 1) = false) (c2 : (decide (x ≤ 0) || items.isEmpty) = true) :
    Meets (Builtin.«tuple.__mul__» ⟨[.ref l, .int x u], []⟩) (fun _ R s => s.heap.get? l = some { cls := .type "tuple", dict := dd, data := .seq items n, slots := sl } ∧
      R (.ok (.ret (Value.ref s.heap.objs.size))) { s with heap := s.heap.push { cls := Value.type "tuple", data := Data.seq #[] }, toks := s.toks }) :=
  .of_wp fun prog w A R s h => by
    obtain ⟨hp, g, d, tk, os⟩ := s
    obtain ⟨hl, h⟩ := h
    have f1 := AutoSeq1.idx_int
    wp_walk using wpAny_loadPart' hl
    repeat (first
      | (refine wpAny_ite_false (decide_eq_false (by rw [c0]; exact Bool.false_ne_true)) ?_; wp_walk using wpAny_loadPart' hl)
      | (refine wpAny_ite_false (decide_eq_false (by rw [c1]; exact Bool.false_ne_true)) ?_; wp_walk using wpAny_loadPart' hl)
      | (refine wpAny_ite_true (decide_eq_true c2) ?_; wp_walk using wpAny_loadPart' hl))
    exact ⟨_, rfl, h⟩
def rRepT2 (K : PySem.W.Frag) : R2 := fun x y H Q => ∃ l k xs, x = .ref l ∧ y = .int k ∧ SqT K H l xs ∧ -(2 ^ 63) ≤ k ∧ k < 2 ^ 63 ∧ xs.length * k.toNat ≤ sizeLine ∧
  (xs = [] ∨ k = 1 → Q (.ref l) H) ∧ (xs ≠ [] → k ≠ 1 → ∀ p, H p = none → Q (.ref p) (upd H p (.tup (List.replicate k.toNat xs).flatten)))
section
variable {X : Cx}
theorem op_repT2 : OpR X (binaryOp .Mult) (rRepT2 X.K) := by
  intro pins s σ H x y v u Q I rx ry h
  obtain ⟨l, k, xs, rfl, rfl, hT, h1, h2, hz, q1, q2⟩ := h
  cases rx
  obtain ⟨t, rfl⟩ := ry
  obtain ⟨its, r, ⟨⟨cls, dd, data, sl⟩, ho, hc, n, hd⟩, hs⟩ := I.tuple hT
  simp only at hc hd
  subst hc hd
  have hle : its.length = xs.length := r.length.symm
  have c0 : (decide (k < -(2 ^ 63)) || decide (k ≥ 2 ^ 63)) = false := by
    rw [decide_eq_false (by omega), decide_eq_false (by omega)] <;> rfl
  have hi : its.toArray.isEmpty = decide (xs = []) := by
    cases its with
    | nil =>
      have : xs = [] := List.eq_nil_of_length_eq_zero (by rw [← hle]; rfl)
      rw [decide_eq_true this]
      rfl
    | cons a b =>
      have : xs ≠ [] := fun e => by rw [e] at hle; simp at hle
      rw [decide_eq_false this]
      rfl
  by_cases hc1 : xs = [] ∨ k = 1
  · have c1 : (its.toArray.isEmpty || k == 1) = true := by
      rw [hi]
      rcases hc1 with z | z
      · rw [decide_eq_true z]; rfl
      · rw [z]; simp
    refine wpAny_binaryOp_repeat_ref (T := "tuple") (U := "int") (by decide) ⟨_, ho, rfl⟩ (fun s' => typeIs_int s' k t) noFill_tuple_mul F.fills_int_mul F.slot_int_rmul repeat_tuple F.slot_int_index.lookup
      (call_meets F.slot_int_rmul (typeIs_int s k t) F.entry_int_rmul (F.args_int_rmul_2 _ _) (int_rmul_tuple k t l its.toArray n dd sl)
        ⟨ho, rfl, ⟨_, ho, rfl⟩, call_meets F.slot_tuple_mul ⟨_, ho, rfl⟩ F.entry_tuple_mul (F.args_tuple_mul_2 _ _) (q_tuple_same l its.toArray n dd sl k t c0 c1) ⟨ho, ?_⟩⟩)
    exact ⟨.ref l, H, I, rfl, q1 hc1⟩
  · have hne : xs ≠ [] := fun e => hc1 (.inl e)
    have hk1 : k ≠ 1 := fun e => hc1 (.inr e)
    have c1 : (its.toArray.isEmpty || k == 1) = false := by
      rw [hi, decide_eq_false hne, Bool.false_or]
      exact beq_eq_false_iff_ne.mpr hk1
    by_cases hk : k ≤ 0
    · have c2 : (decide (k ≤ 0) || its.toArray.isEmpty) = true := by rw [decide_eq_true hk]; rfl
      refine wpAny_binaryOp_repeat_ref (T := "tuple") (U := "int") (by decide) ⟨_, ho, rfl⟩ (fun s' => typeIs_int s' k t) noFill_tuple_mul F.fills_int_mul F.slot_int_rmul repeat_tuple F.slot_int_index.lookup
        (call_meets F.slot_int_rmul (typeIs_int s k t) F.entry_int_rmul (F.args_int_rmul_2 _ _) (int_rmul_tuple k t l its.toArray n dd sl)
          ⟨ho, rfl, ⟨_, ho, rfl⟩, call_meets F.slot_tuple_mul ⟨_, ho, rfl⟩ F.entry_tuple_mul (F.args_tuple_mul_2 _ _) (q_tuple_nil l its.toArray n dd sl k t c0 c1 c2) ⟨ho, ?_⟩⟩)
      have e0 : k.toNat = 0 := by omega
      have q := q2 hne hk1
      rw [e0] at q
      refine ⟨.ref s.heap.objs.size, _, I.laid (t' := s.toks) (o := .tup []) (fun b ob q => Heap.get?_push_of_some _ q) (Nat.le_refl _) ?_, rfl, q _ (I.hok.fresh (Nat.le_refl _))⟩
      exact ⟨by rw [List.length_nil]; exact Nat.zero_le _, [], .nil, IsTup.new _ _⟩
    · have c2 : (decide (k ≤ 0) || its.toArray.isEmpty) = false := by
        rw [hi, decide_eq_false hne, decide_eq_false hk]
        rfl
      have hm : ((its.toArray.size : Nat) : Int) * k ≤ 16777216 := by
        rw [List.size_toArray, hle, show k = ((k.toNat : Nat) : Int) by omega]
        rw [sizeLine_eq] at hz
        have h3 : ((xs.length * k.toNat : Nat) : Int) ≤ ((16777216 : Nat) : Int) := Int.ofNat_le.mpr hz
        rw [Int.natCast_mul] at h3
        exact h3
      have flen : (List.replicate k.toNat its).flatten.length ≤ sizeLine := by
        rw [PyProof.Rows.lm_len_rep_flat, hle, Nat.mul_comm]
        exact hz
      have c4 : Builtin.Tuple.tupleTooMany (((its.toArray.size : Nat) : Int) * k) = false := by
        unfold Builtin.Tuple.tupleTooMany
        rw [sizeLine_eq]
        exact decide_eq_false (by omega)
      refine wpAny_binaryOp_repeat_ref (T := "tuple") (U := "int") (by decide) ⟨_, ho, rfl⟩ (fun s' => typeIs_int s' k t) noFill_tuple_mul F.fills_int_mul F.slot_int_rmul repeat_tuple F.slot_int_index.lookup
        (call_meets F.slot_int_rmul (typeIs_int s k t) F.entry_int_rmul (F.args_int_rmul_2 _ _) (int_rmul_tuple k t l its.toArray n dd sl)
          ⟨ho, rfl, ⟨_, ho, rfl⟩, call_meets F.slot_tuple_mul ⟨_, ho, rfl⟩ F.entry_tuple_mul (F.args_tuple_mul_2 _ _) (tuple_mulW l its.toArray n dd sl k t c0 c1 c2 (by omega) c4 (by rw [size_rep, List.size_toArray]; exact flen)) ⟨ho, ?_⟩⟩)
      rw [size_rep]
      refine ⟨.ref s.heap.objs.size, _, I.laid (t' := s.toks) (o := .tup (List.replicate k.toNat xs).flatten) (fun b ob q => Heap.get?_push_of_some _ q) (Nat.le_refl _) ?_, rfl, q2 hne hk1 _ (I.hok.fresh (Nat.le_refl _))⟩
      exact ⟨by rw [PyProof.Rows.lm_len_rep_flat, Nat.mul_comm]; exact hz, _, r.rep k.toNat, IsTup.new _ _⟩
/-- a text many times over -/
def repS (x : Str) (k : Int) : Str := ⟨(List.replicate k.toNat x.cps.toList).flatten.toArray⟩
theorem q_fold (x : Array Nat) : ∀ m : Nat, (List.replicate m x).foldl (· ++ ·) #[] = (List.replicate m x.toList).flatten.toArray := by
  have h : ∀ (m : Nat) (a : Array Nat), (List.replicate m x).foldl (· ++ ·) a = a ++ (List.replicate m x.toList).flatten.toArray := by
    intro m
    induction m with
    | zero => intro a; simp
    | succ m ih =>
      intro a
      rw [List.replicate_succ, List.foldl_cons, ih, List.replicate_succ, List.flatten_cons]
      apply Array.toList_inj.mp
      simp
  intro m
  rw [h]
  simp
def rRepS : R2 := fun x y H Q => ∃ z k, x = .str z ∧ y = .int k ∧ -(2 ^ 63) ≤ k ∧ k < 2 ^ 63 ∧ z.length * k.toNat ≤ sizeLine ∧ Q (.str (repS z k)) H
theorem op_repS : OpR X (binaryOp .Mult) rRepS := by
  intro pins s σ H x y v u Q I rx ry h
  obtain ⟨z, k, rfl, rfl, h1, h2, hz, q⟩ := h
  obtain ⟨t, rfl⟩ := rx
  obtain ⟨t', rfl⟩ := ry
  have hm : ((z.length : Nat) : Int) * ((k.toNat : Nat) : Int) ≤ 16777216 := by
    rw [sizeLine_eq] at hz
    have h3 : ((z.length * k.toNat : Nat) : Int) ≤ ((16777216 : Nat) : Int) := Int.ofNat_le.mpr hz
    rw [Int.natCast_mul] at h3
    exact h3
  refine PySem.P.mul_str (by rw [decide_eq_false (by omega), decide_eq_false (by omega)]; rfl) (fun a b => ?_) (fun a b => ?_) ?_
  · have e : (k.toNat : Int) = k := by omega
    rw [e] at hm
    have hk : 1 ≤ k := by omega
    refine Int.not_lt.mpr ((Int.le_ediv_iff_mul_le (by omega)).mpr ?_)
    omega
  · show decide (z.length * k.toNat > sizeLine) = false
    exact decide_eq_false (by omega)
  · have hT : ∀ (y : Str), y = repS z k → Q (.str y) H := fun y e => by rw [e]; exact q
    by_cases hk : k < 1
    · rw [if_pos hk]
      refine ⟨by decide, .str Str.empty, H, I.tok _, ⟨_, rfl⟩, hT _ ?_⟩
      unfold repS
      rw [show k.toNat = 0 by omega]
      rfl
    · rw [if_neg hk]
      by_cases hb : (k == 1 || z.length == 0) = true
      · rw [if_pos hb]
        refine ⟨.str z, H, I, ⟨_, rfl⟩, hT _ ?_⟩
        unfold repS
        rcases Bool.or_eq_true_iff.mp hb with e | e
        · have e : k = 1 := by simpa using e
          subst e
          show z = ⟨([z.cps.toList].flatten).toArray⟩
          simp
        · have e : z.cps.size = 0 := by simpa [Str.length] using e
          have e2 : z.cps = #[] := Array.eq_empty_of_size_eq_zero e
          have e3 : z = ⟨#[]⟩ := by cases z; simp at e2; rw [e2]
          rw [e3]
          congr 1
          apply Array.toList_inj.mp
          simp
      · rw [if_neg hb]
        refine ⟨?_, .str _, H, I.tok _, ⟨_, rfl⟩, hT _ ?_⟩
        · rw [q_fold]
          show (List.replicate k.toNat z.cps.toList).flatten.toArray.size ≤ sizeLine
          rw [List.size_toArray, PyProof.Rows.lm_len_rep_flat, Nat.mul_comm]
          simpa [Str.length] using hz
        · unfold repS
          rw [q_fold]
end
end L2

namespace QL
open PySem L2
/-! ### over plain data -/
def oMulT (x y : P) (l : LS) (Q : P → LS → Prop) : Prop := match x, y with
  | .d (.tup a), .d (.int k) => -(2 ^ 63) ≤ k ∧ k < 2 ^ 63 ∧ a.length * k.toNat ≤ sizeLine ∧ Q (.d (.tup (List.replicate k.toNat a).flatten)) l
  | _, _ => False
theorem RDs.rep {K : PySem.W.Frag} {p : Pt} {xs : List D} {vs : List V} (h : RDs K p xs vs) : ∀ k : Nat, RDs K p (List.replicate k xs).flatten (List.replicate k vs).flatten
  | 0 => .nil
  | k + 1 => by
    rw [List.replicate_succ, List.replicate_succ, List.flatten_cons, List.flatten_cons]
    exact h.append (RDs.rep h k)
theorem ref_mulT {K : PySem.W.Frag} : RefOp K (rRepT2 K) oMulT := fun p l x y vx vy Qd Q w ce rx ry h k => by
  unfold oMulT at h
  split at h
  · rename_i a n
    cases ry
    cases rx with
    | tup h1 r1 =>
      obtain ⟨b1, b2, b3, q⟩ := h
      refine ⟨_, _, _, rfl, rfl, h1.sq, b1, b2, by rw [← r1.len]; exact b3, fun e => ?_, fun _ _ => k.newT w ce (r1.rep _) q⟩
      have e2 : (List.replicate n.toNat a).flatten = a := by
        rcases e with e | e
        · have : a = [] := List.eq_nil_of_length_eq_zero (by rw [r1.len, e]; rfl)
          rw [this]
          simp
        · rw [e]
          show [a].flatten = a
          simp
      rw [e2] at q
      exact k.same w ce (d := .d _) (RD.tup h1 r1) q
  · exact h.elim
def oMulS (x y : P) (l : LS) (Q : P → LS → Prop) : Prop := match x, y with
  | .d (.str a), .d (.int k) => -(2 ^ 63) ≤ k ∧ k < 2 ^ 63 ∧ a.length * k.toNat ≤ sizeLine ∧ Q (.d (.str (repS a k))) l
  | _, _ => False
theorem ref_mulS {K : PySem.W.Frag} : RefOp K rRepS oMulS := fun p l x y vx vy Qd Q w ce rx ry h k => by
  unfold oMulS at h
  split at h
  · cases rx; cases ry
    exact ⟨_, _, rfl, rfl, h.1, h.2.1, h.2.2.1, k.same w ce (d := .d _) (RD.str _) h.2.2.2⟩
  · exact h.elim
/-- one sign within a text -/
def oInC (neg : Bool) (x y : P) (l : LS) (Q : P → LS → Prop) : Prop := match x, y with
  | .d (.str a), .d (.str z) => ∃ c, a = ⟨#[c]⟩ ∧ Q (.d (.bl (decide (c ∈ z.cps.toList) ^^ neg))) l
  | _, _ => False
theorem ref_inC {K : PySem.W.Frag} : RefOp K (fun x y H Q => ∃ i j, x = .str i ∧ y = .str j ∧ Q (.bl (!(Builtin.Str.occurrences j i 0 j.length 1).isEmpty)) H) (oInC false) := fun p l x y vx vy Qd Q w ce rx ry h k => by
  unfold oInC at h
  split at h
  · cases rx; cases ry
    obtain ⟨c, rfl, h⟩ := h
    rw [Bool.xor_false] at h
    refine ⟨_, _, rfl, rfl, ?_⟩
    rw [PySem.StrLaws.found_one]
    exact k.same w ce (d := .d _) (RD.bl _) h
  · exact h.elim
end QL
set_option Elab.async false
set_option linter.all false
set_option maxRecDepth 100000
set_option maxHeartbeats 4000000
/-! QS2: s += t, calls without arguments. -/
namespace L2
open PySem PySem.Spec PyProof.Rows
theorem ip_addS {X : Cx} : PIp X .Add (fun x y H Q => ∃ i j, x = .str i ∧ y = .str j ∧ i.length + j.length ≤ sizeLine ∧ Q (.str (i ++ j)) H) := by
  exact iop_add_str
end L2
namespace QL
open PySem L2
section
variable {X : Cx} {W : WX} {pos q : Pos} {x : Str} {fs : FS} {k j n : Nat}
def kCall0 (fs : FS) (l : LS) (Q : P → LS → Prop) (E : EK) : Prop := callP fs [] l Q E
def wCall0 (fs : FS) (σ : SS) (l : LS) (Q : P → LS → Prop) (E : EK) : Prop := kCall0 fs l Q E
theorem qe_call0 (c : CalQ X.prog X.w X.K X.mg X.base k x 0 fs) (hr : Room j X.A) (hk : k ≤ j) (tk : Takes X W) (hg : Gl X x) (hdb : (x == ("__debug__" : Str)) = false := by decide) :
    QE X W (.Call (.Name x q) [] [] pos) (wCall0 fs) := by
  obtain ⟨f, fd, ps, F, hm, hkp, hb⟩ := c
  refine ⟨fun pins s σ H Q I h => ?_⟩
  refine wpAny_Call_Name_kw (ld_glob I hg hm ?_ hdb)
  refine PySem.W.callWith_K0 I.kIn hkp (run_fnS (E := fun σ => L2.WE W σ) (us := []) (vs := []) F (hr.mono hk) hb (passAt tk σ) I .nil ?_)
  obtain ⟨p, σd, l, Qd, Ed, hH, R, hw, kk, lk⟩ := h
  subst hH
  exact call_ok R.wf R.ce .nil rfl hw (fun d l' v p' e' w' c' r' q' => kk d l' v p' e' (R.ext e' w' c') r' q') fun ex l' cls dd p' e' w' c' x q => lk ex l' cls dd p' e' (R.ext e' w' c') x q
end
end QL
set_option Elab.async false
set_option linter.all false
set_option maxRecDepth 100000
set_option maxHeartbeats 4000000
/-! QX6: the facts of an own exception class, by a look at the written part. -/
namespace QL
open PySem L2
theorem clsA_of {K : PySem.W.Frag} {x : Str} {C : Addr} (h : PySem.W.nsIn K mainGlobals x = some (some (.ref C))) : clsA K x = C := by
  unfold clsA
  rw [h]
def excOkB (K : PySem.W.Frag) (C : Addr) : Bool := match K.lookup C with
  | some ⟨.type "type", _, .cls cd, sl⟩ => (match cd.mro, sl.toList with
    | .ref C' :: bm, [_, _, _, _, some (.builtin n), _] => decide (C' = C) && (decide (n = "ValueError.__new__") && (!cd.hasDel && (cd.hasDict && PySem.HandSPX.refsVE bm)))
    | _, _ => false)
  | _ => false
theorem excOkB_ok {K : PySem.W.Frag} {C : Addr} (h : excOkB K C = true) : ∃ nm q N bs bm sn sub ab col dd k0 k1 k2 k3 k5, K.lookup C = some (excClassObj nm q C N bs bm true sn sub ab col dd k0 k1 k2 k3 k5 "ValueError.__new__") ∧ PySem.HandSPX.refsVE bm = true := by
  unfold excOkB at h
  split at h
  · rename_i dd cd sl ho
    split at h
    · rename_i C' bm k0 k1 k2 k3 n k5 hm hs
      simp only [Bool.and_eq_true, decide_eq_true_eq, Bool.not_eq_true'] at h
      obtain ⟨rfl, rfl, h3, h4, h5⟩ := h
      obtain ⟨nm, bs, mro, ns, qn, hd, sn, sb, ab, col, del⟩ := cd
      dsimp only at hm h3 h4
      subst hm h3 h4
      have es : sl = #[k0, k1, k2, k3, some (.builtin "ValueError.__new__"), k5] := Array.toList_inj.mp hs
      subst es
      exact ⟨_, _, _, _, bm, _, _, _, _, _, _, _, _, _, _, ho, h5⟩
    · cases h
  · cases h
def clsB (K : PySem.W.Frag) (C : Addr) : Bool := excOkB K C && (decide (PySem.W.findIn K (.ref C) "__setattr__" = some (some (.builtin "object.__setattr__"))) && (decide (PySem.W.subIn K (.ref C) (.type "BaseException") = some true) && (decide (PySem.W.typeIn K (.ref C) = some (.type "type")) &&
  (PySem.W.keepIn K (.ref C) && (decide (PySem.W.findIn K (.ref C) "__getattribute__" = some (some (.builtin "BaseException.__getattribute__"))) && (decide (PySem.W.findIn K (.ref C) "__getattr__" = some none) && (PySem.W.hasDictIn K C &&
  (decide (PySem.W.findIn K (.ref C) "__class__" = some (some (.builtin "object.__class__"))) && (decide (PySem.W.specialIn K (.builtin "object.__class__") "__get__" = some (some (.builtin "getset_descriptor.__get__"))) && (decide (PySem.W.takesIn K (.builtin "object.__class__") = some true) &&
  decide (PySem.W.mroIn K C (.type "object") = some true)))))))))))
structure ClsF (K : PySem.W.Frag) (C : Addr) : Prop where
  oex : OexC K C
  xf : XfC K C
  exc : ExcC K C
theorem clsB_ok {K : PySem.W.Frag} {C : Addr} (h : clsB K C = true) : ClsF K C := by
  unfold clsB at h
  simp only [Bool.and_eq_true, decide_eq_true_eq] at h
  obtain ⟨h1, h2, h3, h4, h5, h6, h7, h8, h9, h10, h11, h12⟩ := h
  exact ⟨⟨excOkB_ok h1, h2, h3, h4, h5⟩, ⟨h6, h7, h3, h8⟩, ⟨h6, h7, h3, h8, h9, h10, h11, h12⟩⟩
theorem tabAll {K : PySem.W.Frag} {c : Value} {t : List (Str × Bool)} (h : ∀ p ∈ t, PySem.W.exmOne K (.ref (clsA K p.1)) c = some p.2) (y : Str) (b : Bool) (e : t.lookup y = some b) : PySem.W.exmOne K (.ref (clsA K y)) c = some b := h (y, b) (PySem.mem_of_lookup e)
/-- a class and the statement of its __init__ -/
def methS (st : Stmt) (i : Nat) : Stmt := match st with
  | .ClassDef _ _ _ body _ _ _ _ _ _ _ => body.getD i (.Pass ⟨0, 0, 0, 0⟩)
  | _ => .Pass ⟨0, 0, 0, 0⟩
end QL
set_option Elab.async false
set_option linter.all false
set_option maxRecDepth 100000
set_option maxHeartbeats 4000000
/-! QS3: x in a list of data of any depth, l.index(x), comprehensions with a test. -/
namespace QL
open PySem L2
theorem any_py {a : D} : ∀ ys : List D, ((D.pys ys).any fun z => PyData.eqv z a.py) = ys.any fun z => D.eqv z a
  | [] => rfl
  | y :: ys => by
    rw [show D.pys (y :: ys) = y.py :: D.pys ys from by simp [D.pys], List.any_cons, List.any_cons, any_py ys]
    rfl
def oInD (neg : Bool) (x y : P) (l : LS) (Q : P → LS → Prop) : Prop := match snap l x, snap l y with
  | some a, some (.lst ys) => dOk 60 a ∧ dOk 60 (.lst ys) ∧ Q (.d (.bl (if neg then !(ys.any fun z => D.eqv z a) else ys.any fun z => D.eqv z a))) l
  | _, _ => False
theorem ref_inD {K : PySem.W.Frag} : RefOp K (rInD K) (oInD false) := fun p l x y vx vy Qd Q w ce rx ry h k => by
  unfold oInD at h
  split at h
  · rename_i a ys ha hb
    have q := k.same w ce (d := .d _) (RD.bl _) h.2.2
    rw [if_neg (by decide), ← any_py] at q
    have e : (D.lst ys).py = .list (D.pys ys) := by simp [D.py]
    have h1 := snap_ok ce ry hb h.2.1
    have h2 := dOk_shaped h.2.1
    rw [e] at h1 h2
    exact ⟨_, _, snap_ok ce rx ha h.1, h1, dOk_shaped h.1, h2, q⟩
  · exact h.elim
theorem ref_notInD {K : PySem.W.Frag} : RefOp K (rNotInD K) (oInD true) := fun p l x y vx vy Qd Q w ce rx ry h k => by
  unfold oInD at h
  split at h
  · rename_i a ys ha hb
    have q := k.same w ce (d := .d _) (RD.bl _) h.2.2
    rw [if_pos rfl, ← any_py] at q
    have e : (D.lst ys).py = .list (D.pys ys) := by simp [D.py]
    have h1 := snap_ok ce ry hb h.2.1
    have h2 := dOk_shaped h.2.1
    rw [e] at h1 h2
    exact ⟨_, _, snap_ok ce rx ha h.1, h1, dOk_shaped h.1, h2, q⟩
  · exact h.elim
def mIndex (x : P) (xs : List P) (l : LS) (Q : P → LS → Prop) : Prop := match snap l x, xs with
  | some (.lst ys), [.d a] => dOk 60 a ∧ dOk 60 (.lst ys) ∧ ∃ (j : Nat) (z : D), ys[j]? = some z ∧ D.eqv z a = true ∧ (∀ (m : Nat) (z' : D), m < j → ys[m]? = some z' → D.eqv z' a = false) ∧ Q (.d (.int (j : Int))) l
  | _, _ => False
theorem pys_get : ∀ (ys : List D) (j : Nat), (D.pys ys)[j]? = (ys[j]?).map D.py
  | [], j => by simp [D.pys]
  | y :: ys, 0 => by simp [D.pys]
  | y :: ys, j + 1 => by
    rw [show D.pys (y :: ys) = y.py :: D.pys ys from by simp [D.pys], List.getElem?_cons_succ, List.getElem?_cons_succ, pys_get ys j]
theorem ref_index {K : PySem.W.Frag} : RefMt K (rIndexD K) mIndex := fun p l x vx xs vs Qd Q w ce rx rxs h k => by
  unfold mIndex at h
  split at h
  · rename_i ys a hx
    obtain ⟨v, rfl, r⟩ := rxs.one
    obtain ⟨h1, h2, j, z, hz, hzz, hno, q⟩ := h
    have d1 := snap_ok ce rx hx h2
    have s2 := dOk_shaped h2
    have e : (D.lst ys).py = .list (D.pys ys) := by simp [D.py]
    rw [e] at d1 s2
    have hv : ∃ b, vx = .ref b := by cases d1 with | lst _ _ => exact ⟨_, rfl⟩
    obtain ⟨b, rfl⟩ := hv
    refine ⟨b, v, a.py, D.pys ys, j, z.py, rfl, rfl, d1, snap_ok ce (x := .d a) r rfl h1, s2, dOk_shaped h1, by rw [pys_get, hz]; rfl, hzz, fun m z' hm hz' => ?_, k.same w ce (d := .d _) (RD.int _) q⟩
    rw [pys_get] at hz'
    obtain ⟨y', hy', rfl⟩ := Option.map_eq_some_iff.mp hz'
    exact hno m y' hm hy'
  · exact h.elim
/-- [elt for x in xs if test] -/
theorem lcF {xs : List D} {g : WG} {σ : SS} {l : LS} {tt : WT} {te : WE} {vs : List Nat} {f : Fresh} {Q : P → LS → Prop} (Iv : Nat → List D → LS → Prop) (hz : xs.length < sizeLine) (h0 : Iv 0 [] l) (hl : ∀ i acc l, Iv i acc l → acc.length ≤ i ∧ i ≤ xs.length)
    (ht : ∀ i x acc l, xs[i]? = some x → Iv i acc l → g (.d x) (wipeD σ vs) l (kLcT tt te vs σ (Iv (i + 1)) acc)) (hd : ∀ acc l, Iv xs.length acc l → freshL f acc l Q) : lcP ⟨xs, okAll⟩ g tt te vs f σ l Q :=
  ⟨Iv, h0, fun i acc l h => ⟨True.intro, by have := hl _ _ _ h; show acc.length < sizeLine; omega⟩, fun i x acc l e h => ht i x acc l e h, fun acc l h => hd acc l h⟩
end QL
open PySem L2 in
theorem L2.Room.u65 {k : Nat} {A : Around} (r : Room k A) : A.units + 65 < cLine := by have := r.un; omega
set_option Elab.async false
set_option linter.all false
set_option maxRecDepth 100000
set_option maxHeartbeats 4000000
/-! M73: the first smallest covering set. -/
namespace M73
open PySem L2 QL
def combos : List Nat → Nat → List (List Nat)
  | _, 0 => [[]]
  | [], _ + 1 => []
  | x :: xs, k + 1 => (combos xs k).map (x :: ·) ++ combos xs (k + 1)
theorem combos_zero (xs : List Nat) : combos xs 0 = [[]] := by cases xs <;> rfl
theorem combos_len : ∀ (xs : List Nat) (k : Nat) (S : List Nat), S ∈ combos xs k → S.length = k
  | xs, 0, S, h => by rw [combos_zero] at h; simp at h; rw [h]; rfl
  | [], k + 1, S, h => by simp [combos] at h
  | x :: xs, k + 1, S, h => by
    rw [combos, List.mem_append] at h
    rcases h with h | h
    · obtain ⟨T, hT, rfl⟩ := List.mem_map.mp h
      simp [combos_len xs k T hT]
    · exact combos_len xs (k + 1) S h
theorem combos_sub : ∀ (xs : List Nat) (k : Nat) (S : List Nat), S ∈ combos xs k → S.Sublist xs
  | xs, 0, S, h => by rw [combos_zero] at h; simp at h; rw [h]; exact List.nil_sublist _
  | [], k + 1, S, h => by simp [combos] at h
  | x :: xs, k + 1, S, h => by
    rw [combos, List.mem_append] at h
    rcases h with h | h
    · obtain ⟨T, hT, rfl⟩ := List.mem_map.mp h
      exact (combos_sub xs k T hT).cons_cons x
    · exact (combos_sub xs (k + 1) S h).cons x
theorem mem_combos {S xs : List Nat} (h : S.Sublist xs) : S ∈ combos xs S.length := by
  induction h with
  | slnil => simp [combos]
  | cons a h ih =>
    rename_i l1 l2
    cases l1 with
    | nil => simp [combos]
    | cons y t => rw [List.length_cons, combos, List.mem_append]; exact .inr ih
  | cons_cons a h ih => rw [List.length_cons, combos, List.mem_append]; exact .inl (List.mem_map.mpr ⟨_, ih, rfl⟩)
theorem combos_big : ∀ (xs : List Nat) (k : Nat), xs.length < k → combos xs k = []
  | xs, 0, h => by simp at h
  | [], k + 1, h => rfl
  | x :: xs, k + 1, h => by
    simp at h
    rw [combos, combos_big xs k h, combos_big xs (k + 1) (by omega)]
    rfl
/-! the first one in the order -/
theorem find_first {p : List Nat → Bool} : ∀ (xs : List Nat) (k : Nat) (a t t' : List Nat) (y o : Nat), xs.Pairwise (· < ·) → (combos xs k).find? p = some (a ++ y :: t) → (a ++ o :: t').Sublist xs → (a ++ o :: t').length = k → o < y → p (a ++ o :: t') = false
  | xs, 0, a, t, t', y, o, _, h, _, hl, _ => by simp at hl
  | [], k + 1, a, t, t', y, o, _, h, _, _, _ => by simp [combos] at h
  | x :: xs, k + 1, a, t, t', y, o, hx, h, hs, hl, ho => by
    have hx' := List.pairwise_cons.mp hx
    rw [combos, List.find?_append] at h
    cases a with
    | nil =>
      simp only [List.nil_append] at h hs hl ⊢
      by_cases e : o = x
      · subst e
        cases hf : ((combos xs k).map (o :: ·)).find? p with
        | some S =>
          rw [hf] at h
          have hS := List.mem_of_find?_eq_some hf
          obtain ⟨T, _, e2⟩ := List.mem_map.mp hS
          have e3 : S = y :: t := by simpa using h
          rw [e3] at e2
          have : o = y := (List.cons.inj e2).1
          omega
        | none =>
          have hn := List.find?_eq_none.mp hf
          have hsub : t'.Sublist xs := List.Sublist.of_cons_cons hs
          have hm : t' ∈ combos xs k := by
            have := mem_combos hsub
            simp at hl
            rw [hl] at this
            exact this
          have := hn (o :: t') (List.mem_map.mpr ⟨t', hm, rfl⟩)
          simpa using this
      · have hs' : (o :: t').Sublist xs := by
          cases hs with
          | cons _ h => exact h
          | cons_cons _ h => exact absurd rfl e
        have hox : x < o := hx'.1 o (hs'.subset (by simp))
        cases hf : ((combos xs k).map (x :: ·)).find? p with
        | some S =>
          rw [hf] at h
          have hS := List.mem_of_find?_eq_some hf
          obtain ⟨T, _, e2⟩ := List.mem_map.mp hS
          have e3 : S = y :: t := by simpa using h
          rw [e3] at e2
          have : x = y := (List.cons.inj e2).1
          omega
        | none =>
          rw [hf, Option.none_or] at h
          exact find_first xs (k + 1) [] t t' y o hx'.2 h hs' hl ho
    | cons b a =>
      simp only [List.cons_append] at h hs hl ⊢
      have key : ∀ S : List Nat, (combos xs (k + 1)).find? p = some (b :: (a ++ y :: t)) → (b :: (a ++ o :: t')).Sublist xs → p (b :: (a ++ o :: t')) = false := fun S h2 hs2 => find_first xs (k + 1) (b :: a) t t' y o hx'.2 h2 hs2 hl ho
      cases hf : ((combos xs k).map (x :: ·)).find? p with
      | some S =>
        rw [hf] at h
        have hS := List.mem_of_find?_eq_some hf
        obtain ⟨T, _, e2⟩ := List.mem_map.mp hS
        have e3 : S = b :: (a ++ y :: t) := by simpa using h
        rw [e3] at e2
        have eb : x = b := (List.cons.inj e2).1
        subst eb
        rw [e3] at hf
        have hs' : (a ++ o :: t').Sublist xs := List.Sublist.of_cons_cons hs
        rw [List.find?_map] at hf
        obtain ⟨U, hU, e4⟩ := Option.map_eq_some_iff.mp hf
        have e5 : U = a ++ y :: t := (List.cons.inj e4).2
        rw [e5] at hU
        simp only [List.length_cons] at hl
        exact find_first (p := p ∘ (x :: ·)) xs k a t t' y o hx'.2 hU hs' (by omega) ho
      | none =>
        rw [hf, Option.none_or] at h
        have hS := List.mem_of_find?_eq_some h
        have hsub := combos_sub _ _ _ hS
        have hbx : x ≠ b := by
          have : x < b := hx'.1 b (hsub.subset (by simp))
          omega
        have hs' : (b :: (a ++ o :: t')).Sublist xs := by
          cases hs with
          | cons _ h => exact h
          | cons_cons _ h => exact absurd rfl hbx
        exact key [] h hs'
theorem sub_of : ∀ {ys xs : List Nat}, ys.Pairwise (· < ·) → xs.Pairwise (· < ·) → (∀ x ∈ xs, x ∈ ys) → xs.Sublist ys
  | _, [], _, _, _ => List.nil_sublist _
  | [], x :: xs, _, _, h => absurd (h x (by simp)) (by simp)
  | y :: ys, x :: xs, hy, hx, h => by
    have hy' := List.pairwise_cons.mp hy
    have hx' := List.pairwise_cons.mp hx
    by_cases e : x = y
    · subst e
      refine (sub_of hy'.2 hx'.2 fun z hz => ?_).cons_cons x
      rcases List.mem_cons.mp (h z (by simp [hz])) with e | e
      · have := hx'.1 z hz
        omega
      · exact e
    · have hxy : x ∈ ys := by
        rcases List.mem_cons.mp (h x (by simp)) with h | h
        · exact absurd h e
        · exact h
      have hlt := hy'.1 x hxy
      refine (sub_of hy'.2 hx fun z hz => ?_).cons y
      rcases List.mem_cons.mp (h z hz) with e | e
      · rcases List.mem_cons.mp hz with e2 | e2
        · exact e2 ▸ hxy
        · have := hx'.1 z e2
          omega
      · exact e
theorem mem_tw {p : Nat → Bool} : ∀ {xs : List Nat} {x : Nat}, x ∈ xs.takeWhile p → p x = true
  | [], x, h => by simp at h
  | y :: ys, x, h => by
    rw [List.takeWhile_cons] at h
    split at h
    · rename_i hy
      rcases List.mem_cons.mp h with e | e
      · rw [e]; exact hy
      · exact mem_tw e
    · simp at h
theorem rng_sorted (N : Nat) : (List.range N).Pairwise (· < ·) := List.pairwise_lt_range
theorem diff : ∀ {S T : List Nat}, S.length = T.length → S ≠ T → ∃ a y t o t', S = a ++ y :: t ∧ T = a ++ o :: t' ∧ y ≠ o
  | [], [], _, h => absurd rfl h
  | s :: S, u :: T, hl, h => by
    by_cases e : s = u
    · subst e
      obtain ⟨a, y, t, o, t', rfl, rfl, h2⟩ := diff (S := S) (T := T) (by simpa using hl) (fun e => h (by rw [e]))
      exact ⟨s :: a, y, t, o, t', rfl, rfl, h2⟩
    · exact ⟨[], s, S, u, T, rfl, rfl, e⟩
/-! covers -/
def orL (lots : List Nat) (S : List Nat) : Nat := S.foldr (fun n c => lots.getD n 0 ||| c) 0
theorem orL_bit (lots : List Nat) (S : List Nat) (k : Nat) : (orL lots S).testBit k = true ↔ ∃ n ∈ S, (lots.getD n 0).testBit k = true := by
  induction S with
  | nil => simp [orL]
  | cons x S ih =>
    show (lots.getD x 0 ||| orL lots S).testBit k = true ↔ _
    rw [Nat.testBit_or, Bool.or_eq_true, ih]
    simp
def cov (lots : List Nat) (full : Nat) (S : List Nat) : Bool := decide (orL lots S = full)
theorem cov_iff {lots : List Nat} {full : Nat} (hf : ∀ n k, (lots.getD n 0).testBit k = true → full.testBit k = true) {S : List Nat} : cov lots full S = true ↔ ∀ k, full.testBit k = true → ∃ n ∈ S, (lots.getD n 0).testBit k = true := by
  unfold cov
  rw [decide_eq_true_eq]
  constructor
  · intro h k hk
    rw [← h] at hk
    exact (orL_bit _ _ _).mp hk
  · intro h
    apply Nat.eq_of_testBit_eq
    intro k
    rw [Bool.eq_iff_iff]
    constructor
    · intro h1
      obtain ⟨n, _, h2⟩ := (orL_bit _ _ _).mp h1
      exact hf n k h2
    · intro h1
      exact (orL_bit _ _ _).mpr (h k h1)
def best (xs : List Nat) (p : List Nat → Bool) : Option (List Nat) := (List.range (xs.length + 1)).findSome? fun k => (combos xs k).find? p
/-- the first size that has one -/
theorem best_some {xs : List Nat} {p : List Nat → Bool} {k : Nat} {S : List Nat} (h : (combos xs k).find? p = some S) (hn : ∀ j, j < k → (combos xs j).find? p = none) : best xs p = some S := by
  have hk : k ≤ xs.length := by
    by_cases hk : k ≤ xs.length
    · exact hk
    · rw [combos_big xs k (by omega)] at h
      cases h
  unfold best
  have e : List.range (xs.length + 1) = List.range k ++ (k :: (List.range (xs.length - k)).map (· + (k + 1))) := by
    rw [show xs.length + 1 = k + (1 + (xs.length - k)) by omega, List.range_add, List.range_add]
    congr 1
    simp
    intro a _
    omega
  rw [e, List.findSome?_append]
  have : (List.range k).findSome? (fun k => (combos xs k).find? p) = none := by
    rw [List.findSome?_eq_none_iff]
    intro j hj
    exact hn j (List.mem_range.mp hj)
  rw [this, Option.none_or, List.findSome?_cons, h]
theorem best_none {xs : List Nat} {p : List Nat → Bool} (h : ∀ k, (combos xs k).find? p = none) : best xs p = none := by
  unfold best
  rw [List.findSome?_eq_none_iff]
  intro j _
  exact h j
theorem best_cases (xs : List Nat) (p : List Nat → Bool) : (∀ k, (combos xs k).find? p = none) ∨ ∃ k S, (combos xs k).find? p = some S ∧ ∀ j, j < k → (combos xs j).find? p = none := by
  by_cases h : ∃ k, ((combos xs k).find? p).isSome = true
  · right
    have : ∃ k, ((combos xs k).find? p).isSome = true ∧ ∀ j, j < k → ¬ ((combos xs j).find? p).isSome = true := by
      obtain ⟨k, hk⟩ := h
      induction k using Nat.strongRecOn with
      | ind k ih =>
        by_cases h2 : ∃ j, j < k ∧ ((combos xs j).find? p).isSome = true
        · obtain ⟨j, hj, hs⟩ := h2
          exact ih j hj hs
        · exact ⟨k, hk, fun j hj hs => h2 ⟨j, hj, hs⟩⟩
    obtain ⟨k, hk, hm⟩ := this
    obtain ⟨S, hS⟩ := Option.isSome_iff_exists.mp hk
    exact ⟨k, S, hS, fun j hj => by simpa using hm j hj⟩
  · left
    intro k
    cases e : (combos xs k).find? p with
    | none => rfl
    | some S => exact absurd ⟨k, by rw [e]; rfl⟩ h
/-! what is kept -/
structure Kept (lots : List Nat) (N : Nat) (kept : List Nat) : Prop where
  sorted : kept.Pairwise (· < ·)
  lt : ∀ n ∈ kept, n < N
  dom : ∀ n, n < N → n ∉ kept → ∃ o ∈ kept, o < n ∧ lots.getD n 0 &&& lots.getD o 0 = lots.getD n 0
theorem and_bits {a b : Nat} (h : a &&& b = a) {k : Nat} (hk : a.testBit k = true) : b.testBit k = true := by
  rw [← h, Nat.testBit_and] at hk
  simp at hk
  exact hk.2
theorem best_kept {lots kept : List Nat} {N full : Nat} (K : Kept lots N kept) (hf : ∀ n k, (lots.getD n 0).testBit k = true → full.testBit k = true) : best kept (cov lots full) = best (List.range N) (cov lots full) := by
  have hsub : kept.Sublist (List.range N) := sub_of (rng_sorted N) K.sorted fun n hn => List.mem_range.mpr (K.lt n hn)
  have inK : ∀ k S, S ∈ combos kept k → S ∈ combos (List.range N) k := fun k S hS => by
    have h1 := (combos_sub _ _ _ hS).trans hsub
    have h2 := mem_combos h1
    rw [combos_len _ _ _ hS] at h2
    exact h2
  rcases best_cases (List.range N) (cov lots full) with h | ⟨k, S, hS, hmin⟩
  · rw [best_none h, best_none fun k => ?_]
    rw [List.find?_eq_none]
    intro T hT
    exact List.find?_eq_none.mp (h k) T (inK k T hT)
  rw [best_some hS hmin]
  have hSm := List.mem_of_find?_eq_some hS
  have hSp : cov lots full S = true := List.find?_some hS
  have hSl := combos_len _ _ _ hSm
  have hSs := combos_sub _ _ _ hSm
  have hSo : S.Pairwise (· < ·) := (rng_sorted N).sublist hSs
  have noSmall : ∀ T : List Nat, T.Sublist (List.range N) → T.length < k → cov lots full T = false := fun T hT hl => by
    have := List.find?_eq_none.mp (hmin _ hl) T (mem_combos hT)
    simpa using this
  have allK : ∀ n ∈ S, n ∈ kept := by
    intro n0 hn0
    apply Classical.byContradiction
    intro hnk
    have hn0N := List.mem_range.mp (hSs.subset hn0)
    obtain ⟨o, ho, hon, hd⟩ := K.dom n0 hn0N hnk
    have hcov := (cov_iff hf).mp hSp
    by_cases hoS : o ∈ S
    · have h1 := noSmall (S.erase n0) ((List.erase_sublist).trans hSs) (by
        rw [List.length_erase_of_mem hn0, ← hSl]
        have := List.length_pos_of_mem hn0
        omega)
      have h2 : cov lots full (S.erase n0) = true := (cov_iff hf).mpr fun q hq => by
        obtain ⟨n, hn, hb⟩ := hcov q hq
        by_cases e : n = n0
        · subst e
          exact ⟨o, (List.mem_erase_of_ne (by omega)).mpr hoS, and_bits hd hb⟩
        · exact ⟨n, (List.mem_erase_of_ne e).mpr hn, hb⟩
      rw [h1] at h2
      cases h2
    · -- S = a ++ y :: t, all of a below o, y above
      have hsplit : S = S.takeWhile (fun x => decide (x < o)) ++ S.dropWhile (fun x => decide (x < o)) := (List.takeWhile_append_dropWhile).symm
      cases hd2 : S.dropWhile (fun x => decide (x < o)) with
      | nil =>
        rw [hd2, List.append_nil] at hsplit
        rw [hsplit] at hn0
        have := mem_tw hn0
        simp at this
        omega
      | cons y t =>
        rw [hd2] at hsplit
        generalize ha : S.takeWhile (fun x => decide (x < o)) = a at hsplit
        have hal : ∀ x ∈ a, x < o := fun x hx => by
          rw [← ha] at hx
          have := mem_tw hx
          simpa using this
        have hy : o < y := by
          have h3 : ¬ (decide (y < o) = true) := by
            have := List.head_dropWhile_not (p := fun x => decide (x < o)) (l := S) (by rw [hd2]; simp)
            simp only [hd2, List.head_cons] at this
            simpa using this
          have h4 : y ≠ o := fun e => hoS (by rw [hsplit, ← e]; simp)
          simp at h3
          omega
        have hyt : (y :: t).Pairwise (· < ·) := by
          rw [hsplit] at hSo
          exact (List.pairwise_append.mp hSo).2.1
        have hn0t : n0 ∈ y :: t := by
          rw [hsplit] at hn0
          rcases List.mem_append.mp hn0 with h | h
          · have := hal n0 h
            omega
          · exact h
        have hbig : ∀ x ∈ y :: t, o < x := fun x hx => by
          rcases List.mem_cons.mp hx with e | e
          · omega
          · have := (List.pairwise_cons.mp hyt).1 x e
            omega
        have hT : (a ++ o :: (y :: t).erase n0).Sublist (List.range N) := by
          refine sub_of (rng_sorted N) ?_ fun x hx => ?_
          · rw [List.pairwise_append, List.pairwise_cons]
            refine ⟨?_, ⟨fun x hx => hbig x (List.mem_of_mem_erase hx), hyt.sublist List.erase_sublist⟩, fun x hx z hz => ?_⟩
            · rw [hsplit] at hSo
              exact (List.pairwise_append.mp hSo).1
            · have h5 := hal x hx
              rcases List.mem_cons.mp hz with e | e
              · omega
              · have := hbig z (List.mem_of_mem_erase e)
                omega
          · rcases List.mem_append.mp hx with h | h
            · exact hSs.subset (by rw [hsplit]; simp [h])
            · rcases List.mem_cons.mp h with h | h
              · rw [h]
                exact List.mem_range.mpr (K.lt o ho)
              · exact hSs.subset (by rw [hsplit]; exact List.mem_append_right _ (List.mem_of_mem_erase h))
        have hTl : (a ++ o :: (y :: t).erase n0).length = k := by
          have h6 : S.length = (a ++ y :: t).length := by rw [← hsplit]
          rw [List.length_append] at h6 ⊢
          rw [List.length_cons, List.length_erase_of_mem hn0t]
          have := List.length_pos_of_mem hn0t
          omega
        rw [hsplit] at hS
        have h1 := find_first (List.range N) k a t _ y o (rng_sorted N) hS hT hTl hy
        have h2 : cov lots full (a ++ o :: (y :: t).erase n0) = true := (cov_iff hf).mpr fun q hq => by
          obtain ⟨n, hn, hb⟩ := hcov q hq
          by_cases e : n = n0
          · subst e
            exact ⟨o, by simp, and_bits hd hb⟩
          · rw [hsplit] at hn
            rcases List.mem_append.mp hn with h | h
            · exact ⟨n, by simp [h], hb⟩
            · exact ⟨n, List.mem_append_right _ (List.mem_cons_of_mem _ ((List.mem_erase_of_ne e).mpr h)), hb⟩
        rw [h1] at h2
        cases h2
  have hSK : S.Sublist kept := sub_of K.sorted hSo allK
  have hSKm : S ∈ combos kept k := by
    have := mem_combos hSK
    rw [hSl] at this
    exact this
  cases hfK : (combos kept k).find? (cov lots full) with
  | none =>
    have := List.find?_eq_none.mp hfK S hSKm
    exact absurd hSp this
  | some T =>
    have hTm := List.mem_of_find?_eq_some hfK
    have hTp : cov lots full T = true := List.find?_some hfK
    have hTl := combos_len _ _ _ hTm
    have hTs := combos_sub _ _ _ hTm
    have e : T = S := by
      apply Classical.byContradiction
      intro hne
      obtain ⟨a, y, t, o, t', rfl, rfl, hyo⟩ := diff (S := T) (T := S) (by omega) hne
      rcases Nat.lt_or_gt_of_ne hyo with h | h
      · have := find_first (List.range N) k a t' t o y (rng_sorted N) hS (hTs.trans hsub) hTl h
        rw [this] at hTp
        cases hTp
      · have := find_first kept k a t t' y o K.sorted hfK hSK hSl h
        rw [this] at hSp
        cases hSp
    rw [e] at hfK
    exact best_some hfK fun j hj => by
      rw [List.find?_eq_none]
      intro U hU
      exact List.find?_eq_none.mp (hmin j hj) U (inK j U hU)
/-! the law's sets -/
def extB (b n : Nat) (row : List Nat) : List (List Nat) := (List.range' (match row.getLast? with | none => b | some z => z + 1) (n - (match row.getLast? with | none => b | some z => z + 1))).map fun x => row ++ [x]
theorem extB_cons (b n y : Nat) (row : List Nat) (hy : y = b) : extB b n (y :: row) = (extB (b + 1) n row).map (y :: ·) := by
  subst hy
  unfold extB
  cases row with
  | nil => simp
  | cons z r =>
    rw [List.getLast?_cons_cons]
    have : ∃ u, (z :: r).getLast? = some u := ⟨_, List.getLast?_eq_some_getLast (by simp)⟩
    obtain ⟨u, hu⟩ := this
    rw [hu]
    simp
theorem extB_any (b b' n : Nat) {row : List Nat} (h : row ≠ []) : extB b n row = extB b' n row := by
  unfold extB
  rw [List.getLast?_eq_some_getLast h]
theorem step_combos : ∀ (m b k : Nat), (combos (List.range' b m) k).flatMap (extB b (b + m)) = combos (List.range' b m) (k + 1)
  | m, b, 0 => by
    rw [combos_zero]
    have h1 : ∀ xs : List Nat, combos xs 1 = xs.map fun x => [x] := fun xs => by
      induction xs with
      | nil => rfl
      | cons x xs ih => rw [combos, combos_zero, ih]; rfl
    rw [h1]
    simp [extB]
  | 0, b, k + 1 => by simp [combos]
  | m + 1, b, k + 1 => by
    rw [List.range'_succ, combos, List.flatMap_append]
    have ih1 := step_combos m (b + 1) k
    have ih2 := step_combos m (b + 1) (k + 1)
    rw [show b + (m + 1) = b + 1 + m by omega]
    have e1 : ((combos (List.range' (b + 1) m) k).map (b :: ·)).flatMap (extB b (b + 1 + m)) = (combos (List.range' (b + 1) m) (k + 1)).map (b :: ·) := by
      rw [← ih1, List.flatMap_map, List.map_flatMap]
      congr 1
      funext row
      exact extB_cons b _ b row rfl
    have this : ∀ L : List (List Nat), (∀ r ∈ L, r ≠ []) → L.flatMap (extB b (b + 1 + m)) = L.flatMap (extB (b + 1) (b + 1 + m)) := fun L hL => by
      induction L with
      | nil => rfl
      | cons r L ih => rw [List.flatMap_cons, List.flatMap_cons, ih (fun x hx => hL x (by simp [hx])), extB_any b (b + 1) _ (hL r (by simp))]
    have e2 := this (combos (List.range' (b + 1) m) (k + 1)) fun r hr => by
      intro e
      have := combos_len _ _ _ hr
      rw [e] at this
      simp at this
    rw [e1, e2, ih2]
    rfl
/-! the stack -/
section
variable (lots ks : List Nat) (full sz : Nat)
structure Ent where
  S : List Nat
  pl : Nat
  c : Nat
def valE (e : Ent) : Option (List Nat) := ((combos (ks.drop e.pl) (sz - e.S.length)).find? fun T => decide (e.c ||| orL lots T = full)).map (e.S ++ ·)
def kid (e : Ent) (j : Nat) : Ent := ⟨e.S ++ [ks.getD j 0], j + 1, e.c ||| lots.getD (ks.getD j 0) 0⟩
def valW (W : List Ent) : Option (List Nat) := W.reverse.findSome? (valE lots ks full sz)
theorem valE_kids (e : Ent) (h : e.S.length < sz) : valE lots ks full sz e = (List.range' e.pl (ks.length - e.pl)).findSome? fun j => valE lots ks full sz (kid lots ks e j) := by
  obtain ⟨S, pl, c⟩ := e
  simp only at h
  generalize hm : ks.length - pl = m
  induction m generalizing pl with
  | zero =>
    have : ks.drop pl = [] := List.drop_eq_nil_of_le (by omega)
    unfold valE
    simp only [this]
    rw [show sz - S.length = (sz - S.length - 1) + 1 by omega]
    simp [combos]
  | succ m ih =>
    have hpl : pl < ks.length := by omega
    have hd : ks.drop pl = ks[pl] :: ks.drop (pl + 1) := List.drop_eq_getElem_cons hpl
    rw [List.range'_succ, List.findSome?_cons]
    have hk : valE lots ks full sz ⟨S, pl, c⟩ = (valE lots ks full sz (kid lots ks ⟨S, pl, c⟩ pl)).or (valE lots ks full sz ⟨S, pl + 1, c⟩) := by
      unfold valE kid
      simp only [hd, List.length_append, List.length_singleton]
      rw [show sz - S.length = (sz - (S.length + 1)) + 1 by omega, combos, List.find?_append, List.find?_map]
      have eg : ks.getD pl 0 = ks[pl] := by simp [List.getD, hpl]
      rw [eg]
      have ep : ((fun T => decide (c ||| orL lots T = full)) ∘ fun x => ks[pl] :: x) = fun T => decide (c ||| lots.getD ks[pl] 0 ||| orL lots T = full) := by
        funext T
        show decide (c ||| (lots.getD ks[pl] 0 ||| orL lots T) = full) = _
        rw [Nat.or_assoc]
      rw [ep]
      cases (combos (ks.drop (pl + 1)) (sz - (S.length + 1))).find? (fun T => decide (c ||| lots.getD ks[pl] 0 ||| orL lots T = full)) with
      | none => simp
      | some T => simp
    rw [hk, ih (pl + 1) (by omega)]
    have hkid : ∀ j, kid lots ks ⟨S, pl + 1, c⟩ j = kid lots ks ⟨S, pl, c⟩ j := fun j => rfl
    simp only [hkid]
    cases valE lots ks full sz (kid lots ks ⟨S, pl, c⟩ pl) <;> rfl
/-- how much is to do -/
def mu (W : List Ent) : Nat := (W.map fun e => 2 ^ (ks.length - e.pl)).sum
theorem mu_kids (e : Ent) : ((List.range' e.pl (ks.length - e.pl)).map fun j => 2 ^ (ks.length - (kid lots ks e j).pl)).sum + 1 = 2 ^ (ks.length - e.pl) := by
  obtain ⟨S, pl, c⟩ := e
  show ((List.range' pl (ks.length - pl)).map fun j => 2 ^ (ks.length - (j + 1))).sum + 1 = _
  generalize hm : ks.length - pl = m
  induction m generalizing pl with
  | zero => rfl
  | succ m ih =>
    rw [List.range'_succ, List.map_cons, List.sum_cons, Nat.add_assoc, ih (pl + 1) (by omega), show ks.length - (pl + 1) = m by omega, Nat.pow_succ]
    omega
end
/-! bits -/
def bitsOf : List Bool → Nat
  | [] => 0
  | b :: bs => (if b = true then 1 else 0) + 2 * bitsOf bs
theorem bitsOf_app (b : Bool) : ∀ bs : List Bool, bitsOf (bs ++ [b]) = bitsOf bs + if b = true then 2 ^ bs.length else 0
  | [] => by cases b <;> rfl
  | x :: bs => by
    rw [List.cons_append, bitsOf, bitsOf, bitsOf_app b bs, List.length_cons, Nat.pow_succ]
    cases b <;> simp <;> omega
theorem bitsOf_bit : ∀ (bs : List Bool) (k : Nat), (bitsOf bs).testBit k = bs.getD k false
  | [], k => by simp [bitsOf]
  | b :: bs, 0 => by
    rw [Nat.testBit_zero, bitsOf]
    cases b <;> simp <;> omega
  | b :: bs, k + 1 => by
    rw [Nat.testBit_succ, bitsOf]
    have : ((if b = true then 1 else 0) + 2 * bitsOf bs) / 2 = bitsOf bs := by cases b <;> simp <;> omega
    rw [this, bitsOf_bit bs k]
    simp
theorem bitsOf_lt : ∀ bs : List Bool, bitsOf bs < 2 ^ bs.length
  | [] => by simp [bitsOf]
  | b :: bs => by
    have := bitsOf_lt bs
    rw [bitsOf, List.length_cons, Nat.pow_succ]
    cases b <;> simp <;> omega
/-! data -/
abbrev AskL := List (List Int × QL.D)
abbrev askD (a : List Int × QL.D) : QL.D := .tup [.tup (a.1.map .int), a.2]
abbrev asksD (As : AskL) : QL.D := .tup (As.map askD)
def natsD (xs : List Nat) : List QL.D := xs.map fun n : Nat => QL.D.int (n : Int)
def optD : Option (List Nat) → QL.D
  | none => .non
  | some S => .tup (natsD S)
def rowP (i t : Nat) : List (Nat × Nat) := (List.range' (i + 1) t).map fun j => (i, j)
def PLt (n i : Nat) : List (Nat × Nat) := (List.range i).flatMap fun i => rowP i (n - (i + 1))
def PL (n : Nat) : List (Nat × Nat) := PLt n n
def dif (v : List Int) (p : Nat × Nat) : Bool := decide (v.getD p.1 0 ≠ v.getD p.2 0)
def ppF (v : List Int) : Nat := bitsOf ((PL v.length).map (dif v))
def pfF (v : List Int) (t : Nat) : Nat := bitsOf ((List.range v.length).map fun o => dif v (o, t))
def valA (As : AskL) (n i : Nat) : Int := ((As.getD n ([], .non)).1).getD i 0
def hitsAll (As : AskL) (pairs : List (Nat × Nat)) (S : List Nat) : Bool := pairs.all fun p => S.any fun n => decide (valA As n p.1 ≠ valA As n p.2)
abbrev pairsD (ps : List (Nat × Nat)) : QL.D := .lst (ps.map fun p => .tup [.int (p.1 : Int), .int (p.2 : Int)])
theorem natsD_len (xs : List Nat) : (natsD xs).length = xs.length := by simp [natsD]
theorem natsD_app (xs ys : List Nat) : natsD (xs ++ ys) = natsD xs ++ natsD ys := by simp [natsD]
theorem getD_at {v : List Int} {i : Nat} (h : i < v.length) : v[i]? = some (v.getD i 0) := by rw [List.getElem?_eq_getElem h]; simp [List.getD, h]
theorem getDn_at {v : List Nat} {i : Nat} (h : i < v.length) : v[i]? = some (v.getD i 0) := by rw [List.getElem?_eq_getElem h]; simp [List.getD, h]
theorem atN {v : List Nat} {k : Int} {i : Nat} (hk : k = (i : Int)) (h : i < v.length) : atI (natsD v) k = some (D.int (v.getD i 0 : Nat)) := atI_m (f := fun n : Nat => D.int (n : Int)) hk (getDn_at h)
theorem rowP_succ (i t : Nat) : rowP i (t + 1) = rowP i t ++ [(i, i + 1 + t)] := by
  unfold rowP
  rw [List.range'_concat, List.map_append]
  simp
theorem PLt_succ (n i : Nat) : PLt n (i + 1) = PLt n i ++ rowP i (n - (i + 1)) := by
  unfold PLt
  rw [List.range_succ, List.flatMap_append]
  simp
theorem rowP_len (i t : Nat) : (rowP i t).length = t := by simp [rowP]
theorem PLt_len (n : Nat) : ∀ i, (PLt n i).length ≤ i * n
  | 0 => by simp [PLt]
  | i + 1 => by
    have := PLt_len n i
    rw [PLt_succ, List.length_append, rowP_len, Nat.succ_mul]
    omega
theorem bits_snoc (v : List Int) (L : List (Nat × Nat)) (p : Nat × Nat) : bitsOf ((L ++ [p]).map (dif v)) = bitsOf (L.map (dif v)) + if dif v p = true then 2 ^ L.length else 0 := by
  rw [List.map_append]
  show bitsOf (L.map (dif v) ++ [dif v p]) = _
  rw [bitsOf_app, List.length_map]
theorem pow_cast (n : Nat) : (1 : Int) * 2 ^ ((n : Int).toNat) = ((2 ^ n : Nat) : Int) := by
  rw [Int.toNat_natCast, Int.one_mul, Int.natCast_pow]
  rfl
theorem and_cast (a b : Nat) : Builtin.bitAnd (a : Int) (b : Int) = ((a &&& b : Nat) : Int) := rfl
theorem or_cast (a b : Nat) : Builtin.bitOr (a : Int) (b : Int) = ((a ||| b : Nat) : Int) := by
  have nn : ∀ x : Int, Builtin.bitNot (Builtin.bitNot x) = x := fun x => by unfold Builtin.bitNot; omega
  have hneg : ∀ x : Nat, decide ((0 : Int) ≤ Builtin.bitNot (x : Int)) = false := fun x => decide_eq_false (by unfold Builtin.bitNot; omega)
  unfold Builtin.bitOr Builtin.bitAnd
  simp only [hneg, nn, Int.toNat_natCast]
theorem dOk_nats {n : Nat} {xs : List Nat} : dOk (n + 1) (.tup (natsD xs)) := by
  rw [dOk_tup]
  intro x hx
  obtain ⟨y, _, rfl⟩ := List.mem_map.mp hx
  simp [dOk_int]
theorem noB_nats {xs : List Nat} : noB (.tup (natsD xs)) := by
  unfold natsD
  simp [noB]
theorem dOk_opt {n : Nat} (o : Option (List Nat)) : dOk (n + 1) (optD o) := by
  cases o with
  | none => simp [optD, dOk_non]
  | some S => exact dOk_nats
theorem noB_opt (o : Option (List Nat)) : noB (optD o) := by
  cases o with
  | none => simp [optD, noB]
  | some S => exact noB_nats
theorem PL_len : ∀ m, 1 ≤ m ∧ m ≤ 6 → (PL m).length = m * (m - 1) / 2 := by
  intro m hm
  rcases (by omega : m = 1 ∨ m = 2 ∨ m = 3 ∨ m = 4 ∨ m = 5 ∨ m = 6) with rfl | rfl | rfl | rfl | rfl | rfl <;> decide
theorem orL_app (lots S T : List Nat) : orL lots (S ++ T) = orL lots S ||| orL lots T := by
  apply Nat.eq_of_testBit_eq
  intro k
  rw [Nat.testBit_or, Bool.eq_iff_iff, Bool.or_eq_true, orL_bit, orL_bit, orL_bit]
  simp only [List.mem_append]
  constructor
  · rintro ⟨n, h | h, hb⟩
    · exact .inl ⟨n, h, hb⟩
    · exact .inr ⟨n, h, hb⟩
  · rintro (⟨n, h, hb⟩ | ⟨n, h, hb⟩)
    · exact ⟨n, .inl h, hb⟩
    · exact ⟨n, .inr h, hb⟩
theorem orL_succ (lots : List Nat) (i : Nat) : orL lots (List.range (i + 1)) = orL lots (List.range i) ||| lots.getD i 0 := by
  rw [List.range_succ, orL_app]
  congr 1
  show lots.getD i 0 ||| 0 = _
  simp
/-- all together do not suffice: none does -/
theorem best_none_of {lots : List Nat} {N full : Nat} (hf : ∀ n k, (lots.getD n 0).testBit k = true → full.testBit k = true) (h : orL lots (List.range N) ≠ full) : best (List.range N) (cov lots full) = none := by
  refine best_none fun k => ?_
  rw [List.find?_eq_none]
  intro S hS hc
  apply h
  have h1 := (cov_iff hf).mp hc
  have h2 : cov lots full (List.range N) = true := (cov_iff hf).mpr fun q hq => by
    obtain ⟨n, hn, hb⟩ := h1 q hq
    exact ⟨n, (combos_sub _ _ _ hS).subset hn, hb⟩
  simpa [cov] using h2
theorem hf_map {As : AskL} {g : List Int → Nat} {full : Nat} (h : ∀ a ∈ As, ∀ k, (g a.1).testBit k = true → full.testBit k = true) : ∀ n k, ((As.map fun a => g a.1).getD n 0).testBit k = true → full.testBit k = true := by
  intro n k hk
  by_cases hn : n < As.length
  · have e : (As.map fun a => g a.1).getD n 0 = g As[n].1 := by simp [List.getD, hn]
    rw [e] at hk
    exact h _ (List.getElem_mem hn) k hk
  · have e : (As.map fun a => g a.1).getD n 0 = 0 := by
      unfold List.getD
      rw [List.getElem?_eq_none (by simp; omega)]
      rfl
    rw [e] at hk
    simp at hk
theorem pp_hf {As : AskL} {m : Nat} (hm : 1 ≤ m ∧ m ≤ 6) (hA : ∀ a ∈ As, a.1.length = m) : ∀ n k, ((As.map fun a => ppF a.1).getD n 0).testBit k = true → (2 ^ (m * (m - 1) / 2) - 1).testBit k = true :=
  hf_map fun a ha k hk => by
    rw [Nat.testBit_two_pow_sub_one, decide_eq_true_eq, ← PL_len m hm]
    unfold ppF at hk
    rw [bitsOf_bit, hA a ha] at hk
    apply Classical.byContradiction
    intro hn
    unfold List.getD at hk
    rw [List.getElem?_eq_none (by simp; omega)] at hk
    simp at hk
theorem lesFull : ∀ m, m ≤ 6 → ∀ t, t < m → 2 ^ m - 1 - 2 ^ t = bitsOf ((List.range m).map fun o => decide (o ≠ t)) := by decide +kernel
theorem pf_hf {As : AskL} {m t : Nat} (hm : m ≤ 6) (ht : t < m) (hA : ∀ a ∈ As, a.1.length = m) : ∀ n k, ((As.map fun a => pfF a.1 t).getD n 0).testBit k = true → (2 ^ m - 1 - 2 ^ t).testBit k = true :=
  hf_map (As := As) (g := fun v => pfF v t) (full := 2 ^ m - 1 - 2 ^ t) fun a ha k hk => by
    rw [lesFull m hm t ht, bitsOf_bit]
    unfold pfF at hk
    rw [bitsOf_bit, hA a ha] at hk
    unfold List.getD at *
    by_cases hk2 : k < m
    · rw [List.getElem?_map, List.getElem?_range hk2] at *
      simp only [Option.map_some, Option.getD_some] at *
      apply decide_eq_true
      rintro rfl
      simp [dif] at hk
    · rw [List.getElem?_eq_none (by simp; omega)] at hk
      simp at hk
/-! a while by a falling number -/
theorem whileM {wt : WT} {tb : WS} {D : ED} {σ : SS} {l : LS} (Iv : Nat → SS → LS → Prop) (m : Nat) (h0 : Iv m σ l) (h : ∀ m σ l, Iv m σ l → wt σ l (kWh tb D (kLess Iv m) σ) (exK D σ)) : whileP wt tb D σ l := ⟨Iv, ⟨m, h0⟩, h⟩
abbrev entD (e : Ent) : QL.D := .tup [.tup (natsD e.S), .int (e.pl : Int), .int (e.c : Int)]
/-! what covers parts all -/
def ev (m : Nat) : List (Nat × Nat) := (List.range m).flatMap fun s => (List.range s).map fun f => (f, s)
def lp (m t : Nat) : List (Nat × Nat) := ((List.range m).filter fun o => decide (o ≠ t)).map fun o => (t, o)
theorem mem_PL (m : Nat) (p : Nat × Nat) : p ∈ PL m ↔ p.1 < p.2 ∧ p.2 < m := by
  unfold PL PLt rowP
  simp only [List.mem_flatMap, List.mem_range, List.mem_map, List.mem_range'_1]
  constructor
  · rintro ⟨i, hi, j, hj, rfl⟩
    simp only
    omega
  · rintro ⟨h1, h2⟩
    exact ⟨p.1, by omega, p.2, by omega, rfl⟩
theorem mem_ev (m : Nat) (p : Nat × Nat) : p ∈ ev m ↔ p.1 < p.2 ∧ p.2 < m := by
  unfold ev
  simp only [List.mem_flatMap, List.mem_range, List.mem_map]
  constructor
  · rintro ⟨s, hs, f, hf, rfl⟩
    exact ⟨hf, hs⟩
  · rintro ⟨h1, h2⟩
    exact ⟨p.2, h2, p.1, h1, rfl⟩
theorem hits_iff (As : AskL) (ps : List (Nat × Nat)) (S : List Nat) : hitsAll As ps S = true ↔ ∀ p ∈ ps, ∃ n ∈ S, valA As n p.1 ≠ valA As n p.2 := by
  unfold hitsAll
  simp only [List.all_eq_true, List.any_eq_true, decide_eq_true_eq]
theorem lots_at {As : AskL} {g : List Int → Nat} (n : Nat) : (As.map fun a => g a.1).getD n 0 = if n < As.length then g ((As.getD n ([], .non)).1) else 0 := by
  by_cases hn : n < As.length
  · rw [if_pos hn]; simp [List.getD, hn]
  · rw [if_neg hn]
    unfold List.getD
    rw [List.getElem?_eq_none (by simp; omega)]
    rfl
theorem valA_out {As : AskL} {n i : Nat} (h : ¬ n < As.length) : valA As n i = 0 := by
  have e : As.getD n ([], .non) = ([], .non) := by
    rw [List.getD_eq_getElem?_getD, List.getElem?_eq_none (by omega)]
    rfl
  unfold valA
  rw [e]
  rfl
theorem cov_hits {As : AskL} {m : Nat} (hm : 1 ≤ m ∧ m ≤ 6) (hA : ∀ a ∈ As, a.1.length = m) : cov (As.map fun a => ppF a.1) (2 ^ (m * (m - 1) / 2) - 1) = hitsAll As (ev m) := by
  funext S
  rw [Bool.eq_iff_iff, cov_iff (pp_hf hm hA), hits_iff]
  have key : ∀ n k, k < (PL m).length → (((As.map fun a => ppF a.1).getD n 0).testBit k = true ↔ ∃ p, (PL m)[k]? = some p ∧ valA As n p.1 ≠ valA As n p.2) := fun n k hk => by
    have hk2 : (PL m)[k]? = some (PL m)[k] := List.getElem?_eq_getElem hk
    rw [lots_at (g := ppF) n]
    by_cases hn : n < As.length
    · have hl : ((As.getD n ([], .non)).1).length = m := by
        have : As.getD n ([], .non) = As[n] := by simp [List.getD, hn]
        rw [this]
        exact hA _ (List.getElem_mem hn)
      rw [if_pos hn]
      unfold ppF
      rw [bitsOf_bit, hl]
      unfold List.getD
      rw [List.getElem?_map, hk2]
      simp only [Option.map_some, Option.getD_some, Option.some.injEq, exists_eq_left']
      unfold dif
      rw [decide_eq_true_eq]
      rfl
    · rw [if_neg hn]
      simp only [Nat.zero_testBit, Bool.false_eq_true, false_iff, not_exists, not_and]
      intro p _ h
      exact h (by rw [valA_out hn, valA_out hn])
  have hfull : ∀ k, (2 ^ (m * (m - 1) / 2) - 1).testBit k = true ↔ k < (PL m).length := fun k => by rw [Nat.testBit_two_pow_sub_one, decide_eq_true_eq, ← PL_len m hm]
  constructor
  · intro h p hp
    have hp2 : p ∈ PL m := (mem_PL m p).mpr ((mem_ev m p).mp hp)
    obtain ⟨k, hk, rfl⟩ := List.getElem_of_mem hp2
    obtain ⟨n, hn, hb⟩ := h k ((hfull k).mpr hk)
    obtain ⟨p', hp', hv⟩ := (key n k hk).mp hb
    rw [List.getElem?_eq_getElem hk] at hp'
    cases hp'
    exact ⟨n, hn, hv⟩
  · intro h k hk
    have hk := (hfull k).mp hk
    obtain ⟨n, hn, hv⟩ := h (PL m)[k] ((mem_ev m _).mpr ((mem_PL m _).mp (List.getElem_mem hk)))
    exact ⟨n, hn, (key n k hk).mpr ⟨_, List.getElem?_eq_getElem hk, hv⟩⟩
theorem cov_lp {As : AskL} {m t : Nat} (hm : m ≤ 6) (ht : t < m) (hA : ∀ a ∈ As, a.1.length = m) : cov (As.map fun a => pfF a.1 t) (2 ^ m - 1 - 2 ^ t) = hitsAll As (lp m t) := by
  funext S
  rw [Bool.eq_iff_iff, cov_iff (pf_hf hm ht hA), hits_iff]
  have key : ∀ n k, k < m → (((As.map fun a => pfF a.1 t).getD n 0).testBit k = true ↔ valA As n k ≠ valA As n t) := fun n k hk => by
    rw [lots_at (g := fun v => pfF v t) n]
    by_cases hn : n < As.length
    · have hl : ((As.getD n ([], .non)).1).length = m := by
        have : As.getD n ([], .non) = As[n] := by simp [List.getD, hn]
        rw [this]
        exact hA _ (List.getElem_mem hn)
      rw [if_pos hn]
      unfold pfF
      rw [bitsOf_bit, hl]
      rw [List.getD_eq_getElem?_getD, List.getElem?_map, List.getElem?_range hk]
      simp only [Option.map_some, Option.getD_some]
      unfold dif
      rw [decide_eq_true_eq]
      rfl
    · rw [if_neg hn]
      simp only [Nat.zero_testBit, Bool.false_eq_true, false_iff]
      intro h
      exact h (by rw [valA_out hn, valA_out hn])
  have hfull : ∀ k, (2 ^ m - 1 - 2 ^ t).testBit k = true ↔ k < m ∧ k ≠ t := fun k => by
    rw [lesFull m hm t ht, bitsOf_bit, List.getD_eq_getElem?_getD, List.getElem?_map]
    by_cases hk : k < m
    · rw [List.getElem?_range hk]
      simp [hk]
    · rw [List.getElem?_eq_none (by simpa using hk)]
      simp [hk]
  have hlp : ∀ p, p ∈ lp m t ↔ p.1 = t ∧ p.2 < m ∧ p.2 ≠ t := fun p => by
    unfold lp
    simp only [List.mem_map, List.mem_filter, List.mem_range, decide_eq_true_eq]
    constructor
    · rintro ⟨o, ⟨h1, h2⟩, rfl⟩
      exact ⟨rfl, h1, h2⟩
    · rintro ⟨h1, h2, h3⟩
      exact ⟨p.2, ⟨h2, h3⟩, by rw [← h1]⟩
  constructor
  · intro h p hp
    obtain ⟨h1, h2, h3⟩ := (hlp p).mp hp
    obtain ⟨n, hn, hb⟩ := h p.2 ((hfull p.2).mpr ⟨h2, h3⟩)
    have := (key n p.2 h2).mp hb
    exact ⟨n, hn, by rw [h1]; exact fun e => this e.symm⟩
  · intro h k hk
    obtain ⟨h1, h2⟩ := (hfull k).mp hk
    obtain ⟨n, hn, hv⟩ := h (t, k) ((hlp _).mpr ⟨rfl, h1, h2⟩)
    exact ⟨n, hn, (key n k h1).mpr fun e => hv e.symm⟩
/-! the hardest -/
def hardF : List (Option (List Nat)) → Nat → Option (Nat × Nat) → Option (Nat × Nat)
  | [], _, f => f
  | none :: _, _, _ => none
  | some S :: r, t, none => hardF r (t + 1) (some (t, S.length))
  | some S :: r, t, some (u, k) => hardF r (t + 1) (if k < S.length then some (t, S.length) else some (u, k))
theorem hard_none : ∀ (ls : List (Option (List Nat))) (t : Nat) (f : Option (Nat × Nat)), none ∈ ls → hardF ls t f = none
  | none :: _, _, _, _ => rfl
  | some S :: r, t, none, h => by
    rw [hardF]
    exact hard_none r _ _ (by simpa using h)
  | some S :: r, t, some (u, k), h => by
    rw [hardF]
    exact hard_none r _ _ (by simpa using h)
/-- lens: the first place of the greatest -/
theorem hard_some : ∀ (Ls : List (List Nat)) (t u k : Nat), ∃ u' k', hardF (Ls.map some) t (some (u, k)) = some (u', k') ∧ k ≤ k' ∧ (∀ S ∈ Ls, S.length ≤ k') ∧
    ((u' = u ∧ k' = k) ∨ ∃ j, u' = t + j ∧ (Ls[j]?).map List.length = some k' ∧ k < k' ∧ ∀ i S, i < j → Ls[i]? = some S → S.length < k')
  | [], t, u, k => ⟨u, k, rfl, Nat.le_refl _, by simp, .inl ⟨rfl, rfl⟩⟩
  | S :: r, t, u, k => by
    rw [List.map_cons, hardF]
    by_cases h : k < S.length
    · rw [if_pos h]
      obtain ⟨u', k', e, h1, h2, h3⟩ := hard_some r (t + 1) t S.length
      refine ⟨u', k', e, by omega, fun T hT => ?_, .inr ?_⟩
      · rcases List.mem_cons.mp hT with rfl | hT
        · exact h1
        · exact h2 T hT
      · rcases h3 with ⟨rfl, rfl⟩ | ⟨j, rfl, h4, h5, h6⟩
        · exact ⟨0, rfl, rfl, h, fun i S hi => by omega⟩
        · refine ⟨j + 1, by omega, by simpa using h4, by omega, fun i T hi hT => ?_⟩
          cases i with
          | zero =>
            simp at hT
            rw [← hT]
            exact h5
          | succ i => exact h6 i T (by omega) (by simpa using hT)
    · rw [if_neg h]
      obtain ⟨u', k', e, h1, h2, h3⟩ := hard_some r (t + 1) u k
      refine ⟨u', k', e, h1, fun T hT => ?_, ?_⟩
      · rcases List.mem_cons.mp hT with rfl | hT
        · omega
        · exact h2 T hT
      · rcases h3 with ⟨rfl, rfl⟩ | ⟨j, rfl, h4, h5, h6⟩
        · exact .inl ⟨rfl, rfl⟩
        · refine .inr ⟨j + 1, by omega, by simpa using h4, h5, fun i T hi hT => ?_⟩
          cases i with
          | zero =>
            simp at hT
            rw [← hT]
            omega
          | succ i => exact h6 i T (by omega) (by simpa using hT)
end M73
set_option Elab.async false
set_option linter.all false
set_option maxRecDepth 100000
set_option maxHeartbeats 4000000
namespace W73
open PySem PySem.Spec PyProof.Rows L2 QL M73
open QL (D P LS SS WE)
local macro_rules | `(tactic| walk_at "q") => `(tactic| simp only [oInD, mIndex, kLess, Int.reduceEq, decide_false, Bool.not_false, Bool.not_true, List.reverse_cons, List.reverse_nil, kRaise, wRaise, wTry, dSu, kDel, wXf, kXf, wIsX, kIsX, noXD, wCall0, kCall0, oMulT, oMulS, oCatS, oSlS, bLenS, kOp2, kOp1, kUn, kB, kTru, wTru, truD, kNot, kAnd, kOr, kAndV, kOrV, kNotV, kIfE, kCh1, kCh2, kCh3, kC1, kC2, kCB, kDrop, kIf, kG, kAsg, kAug1, kAug2, kPart, kSl1, kSl2, kSl3, kTupD, kLstD, kIce, wIce, kBM0, kBM1, kBM2, kSub1, kSub2, kLst, kTp, kRg1, kRg2, kRg3, kSt, iSt, kTurn, kFor, kWh, kEl, kTs, kLcT, kLc, kCall, kMs, kIt, kEnd, kEx, callE, wSeq, wAsg, gN, wC, wVar, wOp, wUn, wB, isB, wNot, wAnd, wOr, wAndV, wOrV, wNotV, wIfE, wChain, wNil, wCons, wCB, wNext, wBreak, wCont, wDrop, wRet, wRetN, wIf, gE, gC, gT, wAug, oII, oI0, oB0, oU, oIs, isNon,
  bInt1, bInt2, bLen, bTup, bIsi, tyOf, wFor, iRg1, iRg2, iRg3, iLst, iTp, wCall, wTup, wLst, asDs, wBM, wBM0, seqOf, lstOf, lisOf, freshL, snap, oEq, oIx, oIn, oCat, oCatT, wSl, wPart, wNoPart, oSlL, oSlT, mAppend, mPop, mPopAt, mExtend, mRev, gSubL, wLc, wYes, bSum, bAll, bAny, bMax, bMin, bList,
  startD, List.map_cons, List.map_nil, List.length_cons, List.length_nil, List.replicate, List.cons_append, List.nil_append, List.set_cons_zero, List.set_cons_succ, List.getElem?_cons_zero, List.getElem?_cons_succ, Nat.reduceAdd, Nat.reduceSub, Option.map_some, retN, CMul, CDiv, callP, callB, locsOf, relab, pick, wback, List.nodup_nil, List.getD_cons_zero,
  Int.reducePow, Int.reduceNeg, Int.reduceLT, Int.reduceLE, and_self, or_true, true_or, true_and, and_true, decide_eq_true_eq, reduceIte, List.take_length, List.take_zero, List.take_succ_cons, Int.zero_add, List.length_map, Int.reduceToNat, Nat.lt_irrefl, Bool.not_true, Bool.not_false, Bool.true_eq_false, dOk_cons, dOk_nil, atI_cons1, atI_cons0, seqIx0, ixN0, pos_len, ne_len, nodup1, Option.some.injEq, exists_eq_left', Option.isSome_some, List.eraseIdx_cons_zero, Int.ofNat_zero, Int.natCast_zero, Int.lt_irrefl, if_true, eq_self, wipeD, rangeD_len, List.length_append, D.eqv_int, dOk_int, dOk_non, dOk_ints, Bool.false_eq_true, Nat.reduceLeDiff, if_false, decide_true, Bool.not_eq_true', decide_eq_false_iff_not, List.take_nil])

def top (i : Nat) : Stmt := PySem.Challenge.pw_columnwright_k73_tests_and_lessons.main.body.getD i (.Pass ⟨0, 0, 0, 0⟩)
abbrev s_parted_pairs : Stmt := top 5
abbrev N_parted_pairs : List Str := ["values", "lot", "number", "first", "second"]
theorem sc_parted_pairs : FnScope N_parted_pairs ["values"] (defScope s_parted_pairs) := ⟨rfl, rfl, rfl, by decide +kernel, rfl, by decide +kernel, by decide +kernel⟩
abbrev s_undominated : Stmt := top 6
abbrev N_undominated : List Str := ["lots", "kept", "number", "other"]
theorem sc_undominated : FnScope N_undominated ["lots"] (defScope s_undominated) := ⟨rfl, rfl, rfl, by decide +kernel, rfl, by decide +kernel, by decide +kernel⟩
abbrev s_first_cover : Stmt := top 7
abbrev N_first_cover : List Str := ["lots", "kept", "full", "size", "waiting", "numbers", "place", "covered", "further"]
theorem sc_first_cover : FnScope N_first_cover ["lots", "kept", "full", "size"] (defScope s_first_cover) := ⟨rfl, rfl, rfl, by decide +kernel, rfl, by decide +kernel, by decide +kernel⟩
abbrev s_least_tests : Stmt := top 8
abbrev N_least_tests : List Str := ["asks", "many", "lots", "values", "ledger", "full", "together", "lot", "kept", "size", "numbers"]
theorem sc_least_tests : FnScope N_least_tests ["asks", "many"] (defScope s_least_tests) := ⟨rfl, rfl, rfl, by decide +kernel, rfl, by decide +kernel, by decide +kernel⟩
abbrev s_parted_from : Stmt := top 10
abbrev N_parted_from : List Str := ["values", "thing", "other"]
theorem sc_parted_from : FnScope N_parted_from ["values", "thing"] (defScope s_parted_from) := ⟨rfl, rfl, rfl, by decide +kernel, rfl, by decide +kernel, by decide +kernel⟩
abbrev s_lesson : Stmt := top 11
abbrev N_lesson : List Str := ["asks", "many", "thing", "lots", "values", "ledger", "full", "together", "lot", "kept", "size", "numbers"]
theorem sc_lesson : FnScope N_lesson ["asks", "many", "thing"] (defScope s_lesson) := ⟨rfl, rfl, rfl, by decide +kernel, rfl, by decide +kernel, by decide +kernel⟩
abbrev s_hardest : Stmt := top 12
abbrev N_hardest : List Str := ["asks", "many", "found", "thing", "numbers"]
theorem sc_hardest : FnScope N_hardest ["asks", "many"] (defScope s_hardest) := ⟨rfl, rfl, rfl, by decide +kernel, rfl, by decide +kernel, by decide +kernel⟩
abbrev s_law_mixed : Stmt := top 14
abbrev N_law_mixed : List Str := ["number", "place", "told", "seed", "turn"]
theorem sc_law_mixed : FnScope N_law_mixed ["number", "place"] (defScope s_law_mixed) := ⟨rfl, rfl, rfl, by decide +kernel, rfl, by decide +kernel, by decide +kernel⟩
abbrev s_law_purse : Stmt := top 15
abbrev N_law_purse : List Str := ["script", "purse", "later", "place", "size"]
theorem sc_law_purse : FnScope N_law_purse ["script"] (defScope s_law_purse) := ⟨rfl, rfl, rfl, by decide +kernel, rfl, by decide +kernel, by decide +kernel⟩
abbrev s_law_take : Stmt := top 16
abbrev N_law_take : List Str := ["purse", "many", "told"]
theorem sc_law_take : FnScope N_law_take ["purse", "many"] (defScope s_law_take) := ⟨rfl, rfl, rfl, by decide +kernel, rfl, by decide +kernel, by decide +kernel⟩
abbrev s_law_row : Stmt := top 17
abbrev N_law_row : List Str := ["purse", "long", "many", "place"]
theorem sc_law_row : FnScope N_law_row ["purse", "long", "many"] (defScope s_law_row) := ⟨rfl, rfl, rfl, by decide +kernel, rfl, by decide +kernel, by decide +kernel⟩
abbrev s_law_sets : Stmt := top 18
abbrev N_law_sets : List Str := ["many", "size", "rows", "turn", "longer", "row", "low", "number"]
theorem sc_law_sets : FnScope N_law_sets ["many", "size"] (defScope s_law_sets) := ⟨rfl, rfl, rfl, by decide +kernel, rfl, by decide +kernel, by decide +kernel⟩
abbrev s_law_parts_all : Stmt := top 19
abbrev N_law_parts_all : List Str := ["asks", "numbers", "pairs", "first", "second", "number"]
theorem sc_law_parts_all : FnScope N_law_parts_all ["asks", "numbers", "pairs"] (defScope s_law_parts_all) := ⟨rfl, rfl, rfl, by decide +kernel, rfl, by decide +kernel, by decide +kernel⟩
abbrev s_law_fewest : Stmt := top 20
abbrev N_law_fewest : List Str := ["asks", "pairs", "size", "numbers"]
theorem sc_law_fewest : FnScope N_law_fewest ["asks", "pairs"] (defScope s_law_fewest) := ⟨rfl, rfl, rfl, by decide +kernel, rfl, by decide +kernel, by decide +kernel⟩
abbrev s_law_refused : Stmt := top 21
abbrev N_law_refused : List Str := ["which", "asks", "error"]
theorem sc_law_refused : FnScope N_law_refused ["which", "asks"] (defScope s_law_refused) := ⟨rfl, rfl, rfl, by decide +kernel, rfl, by decide +kernel, by decide +kernel⟩
abbrev s_law : Stmt := top 22
abbrev N_law : List Str := ["script", "purse", "many", "asks", "number", "every", "second", "first", "lessons", "thing", "due", "other", "longest", "row", "wide"]
theorem sc_law : FnScope N_law ["script"] (defScope s_law) := ⟨rfl, rfl, rfl, by decide +kernel, rfl, by decide +kernel, by decide +kernel⟩
structure Bt (mg : Str → Option Value) : Prop where
  any : mg "any" = none
  int : mg "int" = none
  isinstance : mg "isinstance" = none
  len : mg "len" = none
  max : mg "max" = none
  range : mg "range" = none
  sum : mg "sum" = none
  tuple : mg "tuple" = none
structure Mg (K : PySem.W.Frag) (mg : Str → Option Value) : Prop where
  MOST_THINGS : ∃ u, mg "MOST_THINGS" = some u ∧ RelV (.int 8) u
structure Rs (P : Program) (w : World) (K : PySem.W.Frag) (mg : Str → Option Value) (base : Heap) : Prop where
  TooMany : MkQ P w K mg base 1 "TooMany" ["limit"]
def tab_ColumnError (y : Str) : Option Bool := ([("TooMany", true)] : List (Str × Bool)).lookup y
def isa_TooMany (y : Str) : Bool := decide (y ∈ (["TooMany"] : List Str))
structure Ys (K : PySem.W.Frag) (mg : Str → Option Value) : Prop where
  cm_ColumnError : mg "ColumnError" = some (.ref (clsA K "ColumnError"))
  cm_TooMany : mg "TooMany" = some (.ref (clsA K "TooMany"))
  ex_ColumnError : ∀ y b, tab_ColumnError y = some b → PySem.W.exmOne K (.ref (clsA K y)) (.ref (clsA K "ColumnError")) = some b
  xf_limit : ∀ y ∈ (["TooMany"] : List Str), XfC K (clsA K y) ∧ PySem.W.findIn K (.ref (clsA K y)) "limit" = some none
  is_TooMany : ∀ y ∈ (["TooMany"] : List Str), ExcC K (clsA K y) ∧ PySem.W.kitOne K (.ref (clsA K y)) (.ref (clsA K "TooMany")) = some (isa_TooMany y)

def fs_parted_pairs : FS := fun vs l Q _ => ∃ v : List Int, vs = [.d (.tup (v.map .int))] ∧ l = [] ∧ v.length ≤ 9 ∧ Q (.d (.int (ppF v : Nat))) []

def fs_undominated : FS := fun vs l Q _ => ∃ lots : List Nat, vs = [.d (.lst (natsD lots))] ∧ l = [] ∧ lots.length ≤ 7 ∧ ∀ kept, Kept lots lots.length kept → Q (.loc 0) [.lst (natsD kept)]

def fs_first_cover : FS := fun vs l Q _ => ∃ (lots ks : List Nat) (full size : Nat), vs = [.d (.lst (natsD lots)), .loc 0, .d (.int full), .d (.int size)] ∧ l = [.lst (natsD ks)] ∧ lots.length ≤ 7 ∧ ks.length ≤ 7 ∧ (∀ n ∈ ks, n < lots.length) ∧ Q (.d (optD ((combos ks size).find? (cov lots full)))) [.lst (natsD ks)]

def fs_least_tests : FS := fun vs l Q E => ∃ (As : AskL) (many : Nat), vs = [.d (asksD As), .d (.int many)] ∧ l = [] ∧ As.length ≤ 7 ∧
  (many ≤ 8 → (1 ≤ many ∧ many ≤ 6) ∧ (∀ a ∈ As, a.1.length = many) ∧ Q (.d (optD (best (List.range As.length) (cov (As.map fun a => ppF a.1) (2 ^ (many * (many - 1) / 2) - 1))))) []) ∧ (8 < many → E (.own "TooMany" ["limit"] [.int 8]) [])

def fs_parted_from : FS := fun vs l Q _ => ∃ (v : List Int) (t : Nat), vs = [.d (.tup (v.map .int)), .d (.int t)] ∧ l = [] ∧ v.length ≤ 9 ∧ t < v.length ∧ Q (.d (.int (pfF v t : Nat))) []

def fs_lesson : FS := fun vs l Q E => ∃ (As : AskL) (many : Nat) (thing : Int), vs = [.d (asksD As), .d (.int many), .d (.int thing)] ∧ l = [] ∧ As.length ≤ 7 ∧
  (many ≤ 8 → ∃ t : Nat, thing = t ∧ t < many ∧ many ≤ 6 ∧ (∀ a ∈ As, a.1.length = many) ∧ Q (.d (optD (best (List.range As.length) (cov (As.map fun a => pfF a.1 t) (2 ^ many - 1 - 2 ^ t))))) []) ∧ (8 < many → E (.own "TooMany" ["limit"] [.int 8]) [])

def lesF (As : AskL) (many t : Nat) : Option (List Nat) := best (List.range As.length) (cov (As.map fun a => pfF a.1 t) (2 ^ many - 1 - 2 ^ t))
def hardD : Option (Nat × Nat) → QL.D
  | none => .non
  | some (u, k) => .tup [.int (u : Int), .int (k : Int)]
def fs_hardest : FS := fun vs l Q _ => ∃ (As : AskL) (many : Nat), vs = [.d (asksD As), .d (.int many)] ∧ l = [] ∧ As.length ≤ 7 ∧ many ≤ 6 ∧ (∀ a ∈ As, a.1.length = many) ∧ Q (.d (hardD (hardF ((List.range many).map (lesF As many)) 0 none))) []

def fs_law_mixed : FS := fun vs l Q _ => ∃ a b : Int, vs = [.d (.int a), .d (.int b)] ∧ l = [] ∧ ∀ r : Int, 0 ≤ r → Q (.d (.int r)) []

def fs_law_purse : FS := fun vs l Q _ => ∃ ns : List Int, vs = [.d (.scr (ns.map .int))] ∧ l = [] ∧ ns.length ≤ 63 ∧ ∀ ns' : List Int, ns'.length ≤ 1000 → (∀ n ∈ ns', 0 ≤ n) → Q (.loc 0) [.lst (ns'.map .int)]

def Pur (ns : List Int) : Prop := ns.length ≤ 1000 ∧ ∀ n ∈ ns, 0 ≤ n
def fs_law_take : FS := fun vs l Q _ => ∃ (ns : List Int) (m : Int), vs = [.loc 0, .d (.int m)] ∧ l = [.lst (ns.map .int)] ∧ Pur ns ∧ 1 ≤ m ∧ m < 1073741824 ∧
  ∀ (r : Int) (ns' : List Int), 0 ≤ r → r < m → Pur ns' → Q (.d (.int r)) [.lst (ns'.map .int)]

def fs_law_row : FS := fun vs l Q _ => ∃ (ns : List Int) (k : Nat) (m : Int), vs = [.loc 0, .d (.int k), .d (.int m)] ∧ l = [.lst (ns.map .int)] ∧ Pur ns ∧ k ≤ 1000 ∧ 1 ≤ m ∧ m < 1073741824 ∧
  ∀ (rs ns' : List Int), rs.length = k → (∀ r ∈ rs, 0 ≤ r ∧ r < m) → Pur ns' → Q (.d (.tup (rs.map .int))) [.lst (ns'.map .int)]

def fs_law_sets : FS := fun vs l Q _ => ∃ many size : Nat, vs = [.d (.int many), .d (.int size)] ∧ l = [] ∧ many ≤ 7 ∧ size ≤ 7 ∧ Q (.d (.lst ((combos (List.range many) size).map fun S => .tup (natsD S)))) []

def fs_law_parts_all : FS := fun vs l Q _ => ∃ (As : AskL) (S : List Nat) (ps : List (Nat × Nat)) (many : Nat), vs = [.d (asksD As), .d (.tup (natsD S)), .d (pairsD ps)] ∧ l = [] ∧ As.length ≤ 7 ∧ (∀ n ∈ S, n < As.length) ∧ S.length ≤ 7 ∧ (∀ a ∈ As, a.1.length = many) ∧ (∀ p ∈ ps, p.1 < many ∧ p.2 < many) ∧ Q (.d (.bl (hitsAll As ps S))) []

def fs_law_fewest : FS := fun vs l Q _ => ∃ (As : AskL) (ps : List (Nat × Nat)) (many : Nat), vs = [.d (asksD As), .d (pairsD ps)] ∧ l = [] ∧ As.length ≤ 7 ∧ (∀ a ∈ As, a.1.length = many) ∧ (∀ p ∈ ps, p.1 < many ∧ p.2 < many) ∧ Q (.d (optD (best (List.range As.length) (hitsAll As ps)))) []

def fs_law_refused : FS := fun vs l Q _ => ∃ (As : AskL) (w : Nat), vs = [.d (.int w), .d (asksD As)] ∧ l = [] ∧ As.length ≤ 7 ∧ Q (.d (.bl true)) []

def fs_law : FS := fun vs l Q _ => ∃ ns : List Int, vs = [.d (.scr (ns.map .int))] ∧ l = [] ∧ ns.length ≤ 63 ∧ Q (.d (.bl true)) []
theorem fs_end (ns : List Int) (h : ns.length ≤ 63) : fs_law [.d (.scr (ns.map .int))] [] endD endX := ⟨ns, rfl, rfl, h, rfl⟩
section
variable {P : Program} {w : World} {K : PySem.W.Frag} {mg : Str → Option Value} {base : Heap}
structure Cs (P : Program) (w : World) (K : PySem.W.Frag) (mg : Str → Option Value) (base : Heap) : Prop where
  u : True
theorem ok_parted_pairs {f : Addr} {fd : FuncData} (F : Fun K "parted_pairs" "parted_pairs" s_parted_pairs f fd) (B : Bt mg) : FnOk P w K mg base (L2.CX P w) 1 f fd ["values"] (spQ K 1 fs_parted_pairs) := by
  have nd := sc_parted_pairs.nd
  refine fun_q (k := 0) F sc_parted_pairs 1 rfl (fun cdv A outer s H E hr tk => (qss_cons (qs_set (i := 1) nd rfl (by first | exact Or.inl rfl | exact Or.inr rfl) qe_int)
    (qss_cons (qs_set (i := 2) nd rfl (by first | exact Or.inl rfl | exact Or.inr rfl) qe_int)
    (qss_cons (qs_for (passes_of rfl) rfl (qi_range1 (pi_range1 (by rfl) B.range (qa_cons (qe_callB call_len_seq ref_len (by rfl) B.len (by decide +kernel) (qa_cons (qe_var 0) qa_nil)) qa_nil))) (qg_name (i := 3) nd rfl (by first | exact Or.inl rfl | exact Or.inr rfl)) (qss_one (qs_for (passes_of rfl) rfl (qi_range2 (pi_range2 (by rfl) B.range (qa_cons (qe_op op_add ref_I0 (qe_var 3) qe_int) (qa_cons (qe_callB call_len_seq ref_len (by rfl) B.len (by decide +kernel) (qa_cons (qe_var 0) qa_nil)) qa_nil)))) (qg_name (i := 4) nd rfl (by first | exact Or.inl rfl | exact Or.inr rfl)) (qss_cons (qs_if (qt_cmp (op_neD hr.units) ref_ne (qe_ix (qe_var 0) (qe_var 3) (fun _ _ => rfl)) (qe_ix (qe_var 0) (qe_var 4) (fun _ _ => rfl)) (nomark _)) (qss_one (qs_aug (i := 1) nd rfl (by first | exact Or.inl rfl | exact Or.inr rfl) (qe_op op_shl ref_II qe_int (qe_var 2)) ip_add ref_ip)) qss_nil)
    (qss_one (qs_aug (i := 2) nd rfl (by first | exact Or.inl rfl | exact Or.inr rfl) qe_int ip_add ref_ip))))))
    (qss_one (qs_ret (qe_var 1))))))) (fun ds l Qd Ed hl h => ?_)
  obtain ⟨v, rfl, rfl, hv, q⟩ := h
  walk_at "q"
  refine ⟨by omega, by omega, ?_⟩
  refine loopR (fun i σ l => ∃ x3 x4, σ = [some (.d (.tup (v.map .int))), some (.d (.int (bitsOf ((PLt v.length i).map (dif v)) : Nat))), some (.d (.int ((PLt v.length i).length : Nat))), x3, x4] ∧ l = []) ⟨_, _, rfl, rfl⟩ ?_ ?_
  · rintro i σ l hi ⟨x3, x4, rfl, rfl⟩
    have hi : i < v.length := by omega
    have hle : (PLt v.length i).length ≤ i * v.length := PLt_len _ _
    have hle2 : i * v.length ≤ 9 * 9 := Nat.mul_le_mul (by omega) (by omega)
    walk_at "q"
    refine ⟨⟨by omega, by omega, by omega, by omega⟩, ?_⟩
    refine loopR (fun t σ l => ∃ x4, σ = [some (.d (.tup (v.map .int))), some (.d (.int (bitsOf ((PLt v.length i ++ rowP i t).map (dif v)) : Nat))), some (.d (.int ((PLt v.length i ++ rowP i t).length : Nat))), some (.d (.int i)), x4] ∧ l = []) ⟨x4, by simp [rowP], rfl⟩ ?_ ?_
    · rintro t σ l ht ⟨x4, rfl, rfl⟩
      have hj : i + 1 + t < v.length := by omega
      have hlen : (PLt v.length i ++ rowP i t).length ≤ 100 := by rw [List.length_append, rowP_len]; omega
      have hs := bits_snoc v (PLt v.length i ++ rowP i t) (i, i + 1 + t)
      rw [rowP_succ, ← List.append_assoc]
      generalize PLt v.length i ++ rowP i t = L at *
      have hL1 : (L ++ [(i, i + 1 + t)]).length = L.length + 1 := by simp
      walk_at "q"
      refine ⟨_, atI_m rfl (getD_at hi), _, atI_m (j := i + 1 + t) (by omega) (getD_at hj), ?_⟩
      rw [D.eqv_int, hs, pow_cast]
      refine ⟨by simp [dOk_int], by simp [dOk_int], ?_⟩
      by_cases e : v.getD i 0 = v.getD (i + 1 + t) 0
      · have hd : dif v (i, i + 1 + t) = false := decide_eq_false (fun h => h e)
        rw [if_neg (by rw [decide_eq_true e]; decide), hd]
        refine ⟨some (.d (.int ((i : Int) + 1 + t))), by simp⟩
      · have hd : dif v (i, i + 1 + t) = true := decide_eq_true e
        rw [if_pos (decide_eq_false e), hd]
        exact ⟨⟨by omega, by omega, by decide⟩, some (.d (.int ((i : Int) + 1 + t))), by simp⟩
    · rintro σ l ⟨x4, rfl, rfl⟩
      rw [PLt_succ, show ((v.length : Int) - ((i : Int) + 1)).toNat = v.length - (i + 1) by omega]
      exact ⟨_, _, rfl, rfl⟩
  · rintro σ l ⟨x3, x4, rfl, rfl⟩
    walk_at "q"
    rw [show (v.length : Int).toNat = v.length by omega]
    exact q
theorem ok_undominated {f : Addr} {fd : FuncData} (F : Fun K "undominated" "undominated" s_undominated f fd) (B : Bt mg) : FnOk P w K mg base (L2.CX P w) 1 f fd ["lots"] (spQ K 1 fs_undominated) := by
  have nd := sc_undominated.nd
  refine fun_q (k := 0) F sc_undominated 1 rfl (fun cdv A outer s H E hr tk => (qss_cons (qs_set (i := 1) nd rfl (by first | exact Or.inl rfl | exact Or.inr rfl) (qe_lst (f := .cell) qa_nil))
    (qss_cons (qs_for (passes_of rfl) rfl (qi_range1 (pi_range1 (by rfl) B.range (qa_cons (qe_callB call_len_seq ref_len (by rfl) B.len (by decide +kernel) (qa_cons (qe_var 0) qa_nil)) qa_nil))) (qg_name (i := 2) nd rfl (by first | exact Or.inl rfl | exact Or.inr rfl)) (qss_one (qs_if (qt_not (qt_val (qe_callB (cr_any rfl) ref_any (by rfl) B.any (by decide +kernel) (qa_cons (qe_lc (f := .frz) (own := [("other", 3)]) rfl nd (qi_lst (qe_var 1)) (blkOk_by (N := N_undominated) (sc := defScope s_undominated) (by decide +kernel)) (fun _ _ _ _ _ => (qgv_name (i := 3) (by decide) nd rfl (by first | exact Or.inl rfl | exact Or.inr rfl))) (fun _ _ _ _ _ => qts_nil) (fun _ _ _ _ _ => (qe_cmp (op_eqD hr.units) ref_eq (qe_op op_and ref_I0 (qe_ix (qe_var 0) (qe_var 2) (fun _ _ => rfl)) (qe_ix (qe_var 0) (qe_var 3) (fun _ _ => rfl))) (qe_ix (qe_var 0) (qe_var 2) (fun _ _ => rfl)) (nomark _)))) qa_nil)))) (qss_one (qs_expr (qe_bm PySem.F.slot_list_append PySem.F.type_list_append mt_append ref_append (qe_var 1) (qa_cons (qe_var 2) qa_nil)))) qss_nil)))
    (qss_one (qs_ret (qe_var 1)))))) (fun ds l Qd Ed hl h => ?_)
  obtain ⟨lots, rfl, rfl, hv, q⟩ := h
  walk_at "q"
  rw [natsD_len]
  refine ⟨by omega, by omega, ?_⟩
  refine loopR (fun i σ l => ∃ (kept : List Nat) (x2 x3 : Option QL.P), σ = [some (.d (.lst (natsD lots))), some (.loc 0), x2, x3] ∧ l = [.lst (natsD kept)] ∧ Kept lots i kept) ⟨[], _, _, rfl, rfl, ⟨List.Pairwise.nil, by simp, fun n h => by omega⟩⟩ ?_ ?_
  · rintro i σ l hi ⟨kept, x2, x3, rfl, rfl, hK⟩
    have hi : i < lots.length := by omega
    have hkl : kept.length ≤ i := by
      have := (sub_of (rng_sorted i) hK.sorted fun n hn => List.mem_range.mpr (hK.lt n hn)).length_le
      simpa using this
    walk_at "q"
    refine lcC (fun j acc l => acc = (kept.take j).map (fun o => D.bl (decide (lots.getD i 0 &&& lots.getD o 0 = lots.getD i 0))) ∧ l = [.lst (natsD kept)]) (by rw [natsD_len]; exact Nat.lt_of_le_of_lt (by omega : _ ≤ 100) (by decide)) ⟨rfl, rfl⟩ (fun j acc l h => by rw [h.2]; rfl) ?_ ?_
    · rintro j x acc l hx ha ⟨rfl, rfl⟩
      unfold natsD at hx
      rw [List.getElem?_map] at hx
      obtain ⟨o, ho, rfl⟩ := Option.map_eq_some_iff.mp hx
      have ho2 : o < lots.length := by
        have := hK.lt o (List.mem_of_getElem? ho)
        omega
      have hj := (List.getElem?_eq_some_iff.mp ho).1
      walk_at "q"
      refine ⟨_, atN (i := i) (by omega) hi, _, atN rfl ho2, ?_⟩
      walk_at "q"
      refine ⟨_, atN (i := i) (by omega) hi, by simp [dOk_int], ⟨by simp; omega, by rw [natsD_len]; omega⟩, ?_⟩
      rw [List.take_add_one, ho, List.map_append, D.eqv_int, and_cast]
      simp only [Option.toList_some, List.map_cons, List.map_nil, Int.natCast_inj]
    · rintro acc l ha ⟨rfl, rfl⟩
      rw [natsD_len, List.take_length]
      walk_at "q"
      rw [natsD_len]
      refine ⟨kept.map (fun o => decide (lots.getD i 0 &&& lots.getD o 0 = lots.getD i 0)), by rw [List.map_map]; rfl, ?_⟩
      split
      · rename_i hany
        have hno : ∀ o ∈ kept, ¬ (lots.getD i 0 &&& lots.getD o 0 = lots.getD i 0) := fun o ho e => by
          have : (kept.map (fun o => decide (lots.getD i 0 &&& lots.getD o 0 = lots.getD i 0))).any id = true := by
            rw [List.any_eq_true]
            exact ⟨true, List.mem_map.mpr ⟨o, ho, decide_eq_true e⟩, rfl⟩
          rw [this] at hany
          cases hany
        refine ⟨Nat.lt_of_le_of_lt (by omega : _ ≤ 100) (by decide), kept ++ [i], _, _, rfl, by rw [natsD_app]; simp [natsD], ?_⟩
        refine ⟨?_, fun n hn => ?_, fun n hn hnk => ?_⟩
        · rw [List.pairwise_append]
          exact ⟨hK.sorted, by simp, fun x hx z hz => by simp at hz; have := hK.lt x hx; omega⟩
        · rcases List.mem_append.mp hn with h | h
          · have := hK.lt n h
            omega
          · simp at h
            omega
        · have hni : n ≠ i := fun e => hnk (by simp [e])
          obtain ⟨o, ho, h1, h2⟩ := hK.dom n (by omega) (fun h => hnk (by simp [h]))
          exact ⟨o, by simp [ho], h1, h2⟩
      · rename_i hany
        have hany : (kept.map (fun o => decide (lots.getD i 0 &&& lots.getD o 0 = lots.getD i 0))).any id = true := by simpa using hany
        obtain ⟨b, hb, hb2⟩ := List.any_eq_true.mp hany
        obtain ⟨o, ho, rfl⟩ := List.mem_map.mp hb
        have hd : lots.getD i 0 &&& lots.getD o 0 = lots.getD i 0 := by simpa using hb2
        refine ⟨kept, _, _, rfl, rfl, hK.sorted, fun n hn => by have := hK.lt n hn; omega, fun n hn hnk => ?_⟩
        by_cases e : n = i
        · subst e
          exact ⟨o, ho, hK.lt o ho, hd⟩
        · exact hK.dom n (by omega) hnk
  · rintro σ l ⟨kept, x2, x3, rfl, rfl, hK⟩
    walk_at "q"
    rw [show (lots.length : Int).toNat = lots.length by omega] at hK
    exact q kept hK
theorem ok_first_cover {f : Addr} {fd : FuncData} (F : Fun K "first_cover" "first_cover" s_first_cover f fd) (B : Bt mg) : FnOk P w K mg base (L2.CX P w) 1 f fd ["lots", "kept", "full", "size"] (spQ K 4 fs_first_cover) := by
  have nd := sc_first_cover.nd
  refine fun_q (k := 0) F sc_first_cover 4 rfl (fun cdv A outer s H E hr tk => (qss_cons (qs_set (i := 4) nd rfl (by first | exact Or.inl rfl | exact Or.inr rfl) (qe_lst (f := .cell) (qa_cons (qe_tup (qa_cons (qe_tup qa_nil) (qa_cons qe_int (qa_cons qe_int qa_nil)))) qa_nil)))
    (qss_cons (qs_while (passes_of rfl) (qt_cmp (op_gt) ref_B0 (qe_callB call_len_seq ref_len (by rfl) B.len (by decide +kernel) (qa_cons (qe_var 4) qa_nil)) qe_int (nomark _)) (qss_cons (qs_asg (qe_bm0 PySem.F.slot_list_pop PySem.F.type_list_pop mt_pop ref_pop (qe_var 4)) (qg_tup (n := 3) rfl (qgs_cons (qg_name (i := 5) nd rfl (by first | exact Or.inl rfl | exact Or.inr rfl)) (qgs_cons (qg_name (i := 6) nd rfl (by first | exact Or.inl rfl | exact Or.inr rfl)) (qgs_cons (qg_name (i := 7) nd rfl (by first | exact Or.inl rfl | exact Or.inr rfl)) qgs_nil)))))
    (qss_cons (qs_if (qt_cmp (op_eqD hr.units) ref_eq (qe_callB call_len_seq ref_len (by rfl) B.len (by decide +kernel) (qa_cons (qe_var 5) qa_nil)) (qe_var 3) (nomark _)) (qss_cons (qs_if (qt_cmp (op_eqD hr.units) ref_eq (qe_var 7) (qe_var 2) (nomark _)) (qss_one (qs_ret (qe_var 5))) qss_nil)
    (qss_one qs_continue)) qss_nil)
    (qss_one (qs_for (passes_of rfl) rfl (qi_range3 (pi_range3 (by rfl) B.range (qa_cons (qe_op op_sub ref_I0 (qe_callB call_len_seq ref_len (by rfl) B.len (by decide +kernel) (qa_cons (qe_var 1) qa_nil)) qe_int) (qa_cons (qe_op op_sub ref_I0 (qe_var 6) qe_int) (qa_cons (qe_un un_neg ref_U qe_int) qa_nil))))) (qg_name (i := 8) nd rfl (by first | exact Or.inl rfl | exact Or.inr rfl)) (qss_one (qs_expr (qe_bm PySem.F.slot_list_append PySem.F.type_list_append mt_append ref_append (qe_var 4) (qa_cons (qe_tup (qa_cons (qe_op op_catA ref_catT (qe_var 5) (qe_tup (qa_cons (qe_ix (qe_var 1) (qe_var 8) (fun _ _ => rfl)) qa_nil))) (qa_cons (qe_op op_add ref_I0 (qe_var 8) qe_int) (qa_cons (qe_op op_or ref_I0 (qe_var 7) (qe_ix (qe_var 0) (qe_ix (qe_var 1) (qe_var 8) (fun _ _ => rfl)) (fun _ _ => rfl))) qa_nil)))) qa_nil)))))))))
    (qss_one (qs_ret qe_non))))) (fun ds l Qd Ed hl h => ?_)
  obtain ⟨lots, ks, full, size, rfl, rfl, hl, hk, hks, q⟩ := h
  walk_at "q"
  refine whileM (fun m σ l => ∃ (W : List Ent) (x5 x6 x7 x8 : Option QL.P), m = mu ks W ∧ σ = [some (.d (.lst (natsD lots))), some (.loc 0), some (.d (.int full)), some (.d (.int size)), some (.loc 1), x5, x6, x7, x8] ∧ l = [.lst (natsD ks), .lst (W.map entD)] ∧
    valW lots ks full size W = (combos ks size).find? (cov lots full) ∧ (∀ e ∈ W, e.S.length ≤ size ∧ e.pl ≤ ks.length ∧ (∀ n ∈ e.S, n < lots.length) ∧ e.S.length ≤ e.pl) ∧ mu ks W ≤ 128 ∧ W.length ≤ mu ks W) _ ⟨[⟨[], 0, 0⟩], _, _, _, _, rfl, rfl, rfl, ?_, ?_, ?_, ?_⟩ ?_
  · have e : ((combos (ks.drop 0) (size - 0)).find? fun T => decide (0 ||| orL lots T = full)) = (combos ks size).find? (cov lots full) := by
      rw [List.drop_zero, Nat.sub_zero]
      congr 1
      funext T
      rw [Nat.zero_or]
      rfl
    show [Ent.mk [] 0 0].reverse.findSome? (valE lots ks full size) = _
    rw [List.reverse_singleton, List.findSome?_cons]
    unfold valE
    rw [show (Ent.mk [] 0 0).S.length = 0 from rfl, show (Ent.mk [] 0 0).pl = 0 from rfl, show (Ent.mk [] 0 0).c = 0 from rfl, e]
    cases (combos ks size).find? (cov lots full) <;> rfl
  · intro e he
    simp at he
    subst he
    exact ⟨by simp, by simp, by simp, by simp⟩
  · have : 2 ^ ks.length ≤ 2 ^ 7 := Nat.pow_le_pow_right (by omega) hk
    simpa [mu] using this
  · have : 0 < 2 ^ ks.length := Nat.pow_pos (by omega)
    simp [mu]
    omega
  · rintro m σ l ⟨W, x5, x6, x7, x8, rfl, rfl, rfl, hv, hW, hm, hWl⟩
    by_cases hn : W = []
    · subst hn
      walk_at "q"
      rw [← hv] at q
      exact q
    · obtain ⟨W0, e, rfl, hlast, hdrop⟩ := last_split hn
      have he := hW e (by simp)
      have hval : valW lots ks full size (W0 ++ [e]) = (valE lots ks full size e).or (valW lots ks full size W0) := by
        unfold valW
        rw [List.reverse_append, List.reverse_singleton, List.singleton_append, List.findSome?_cons]
        cases valE lots ks full size e <;> rfl
      have hmu : mu ks (W0 ++ [e]) = mu ks W0 + 2 ^ (ks.length - e.pl) := by simp [mu]
      have hW0 : W0.length ≤ mu ks W0 := by
        have : ∀ V : List Ent, V.length ≤ mu ks V := fun V => by
          induction V with
          | nil => simp [mu]
          | cons x V ih =>
            have : 0 < 2 ^ (ks.length - x.pl) := Nat.pow_pos (by omega)
            have e2 : mu ks (x :: V) = 2 ^ (ks.length - x.pl) + mu ks V := by simp [mu]
            simp only [List.length_cons]
            omega
        exact this W0
      have hp2 : 0 < 2 ^ (ks.length - e.pl) := Nat.pow_pos (by omega)
      walk_at "q"
      refine ⟨entD e, by simp, ?_⟩
      rw [show (List.map entD (W0 ++ [e])).dropLast = List.map entD W0 by simp]
      walk_at "q"
      rw [natsD_len, natsD_len]
      by_cases hS : e.S.length = size
      · rw [if_pos (by omega)]
        have hve : valE lots ks full size e = if e.c = full then some e.S else none := by
          unfold valE
          rw [hS, Nat.sub_self, combos_zero]
          by_cases hc : e.c = full <;> simp [orL, hc]
        by_cases hc : e.c = full
        · rw [if_pos (by omega)]
          rw [hval, hve, if_pos hc] at hv
          rw [← hv] at q
          exact q
        · rw [if_neg (by omega)]
          exact ⟨mu ks W0, by rw [hmu]; omega, W0, _, _, _, _, rfl, rfl, rfl, by rw [← hv, hval, hve, if_neg hc]; rfl, fun e he => hW e (by simp [he]), by omega, hW0⟩
      · rw [if_neg (by omega)]
        have hlt : e.S.length < size := by omega
        have hpl := he.2.1
        refine ⟨ks.length - e.pl, ?_, ?_⟩
        · have := RgC.neg (i := (ks.length : Int) - 1) (j := (e.pl : Int) - 1) (by omega) (by omega) (by omega) (by omega)
          rw [show ((ks.length : Int) - 1 - ((e.pl : Int) - 1)).toNat = ks.length - e.pl by omega] at this
          exact this
        have hWl0 : W0.length ≤ 128 := by omega
        refine loopC (fun t σ l => ∃ x8, σ = [some (.d (.lst (natsD lots))), some (.loc 0), some (.d (.int full)), some (.d (.int size)), some (.loc 1), some (.d (.tup (natsD e.S))), some (.d (.int e.pl)), some (.d (.int e.c)), x8] ∧ l = [.lst (natsD ks), .lst ((W0 ++ (List.range t).map fun u => kid lots ks e (ks.length - 1 - u)).map entD)]) ⟨_, rfl, by simp⟩ ?_ ?_
        · rintro t σ l ht ⟨x8, rfl, rfl⟩
          have hj : ks.length - 1 - t < ks.length := by omega
          have hn := hks _ (List.getElem_mem hj)
          have hg : ks.getD (ks.length - 1 - t) 0 = ks[ks.length - 1 - t] := by simp [List.getD, hj]
          have hlen : ((W0 ++ (List.range t).map fun u => kid lots ks e (ks.length - 1 - u)).map entD).length ≤ 140 := by simp; omega
          have hsucc : (W0 ++ (List.range (t + 1)).map fun u => kid lots ks e (ks.length - 1 - u)).map entD = (W0 ++ (List.range t).map fun u => kid lots ks e (ks.length - 1 - u)).map entD ++ [entD (kid lots ks e (ks.length - 1 - t))] := by
            rw [List.range_succ]; simp
          rw [hsucc]
          generalize hV : (W0 ++ (List.range t).map fun u => kid lots ks e (ks.length - 1 - u)).map entD = V at *
          walk_at "q"
          refine ⟨_, atN (i := ks.length - 1 - t) (by omega) hj, ?_⟩
          refine ⟨by rw [natsD_len]; exact Nat.le_trans (by omega : e.S.length + 1 ≤ 100) (by decide), _, atN (i := ks.length - 1 - t) (by omega) hj, ?_⟩
          refine ⟨_, atN rfl (by rw [hg]; exact hn), Nat.lt_of_le_of_lt hlen (by decide), _, rfl, ?_⟩
          rw [or_cast]
          unfold kid entD
          rw [natsD_app, show ((ks.length : Int) - 1 + (t : Int) * -1 + 1) = ((ks.length - 1 - t + 1 : Nat) : Int) by omega]
          rfl
        · rintro σ l ⟨x8, rfl, rfl⟩
          have hrev : ((List.range (ks.length - e.pl)).map fun u => kid lots ks e (ks.length - 1 - u)).reverse = (List.range' e.pl (ks.length - e.pl)).map (kid lots ks e) := by
            apply List.ext_getElem
            · simp
            · intro n h1 h2
              simp only [List.length_reverse, List.length_map, List.length_range] at h1
              simp only [List.getElem_reverse, List.getElem_map, List.getElem_range, List.getElem_range', List.length_map, List.length_range]
              congr 1
              omega
          have hval2 : valW lots ks full size (W0 ++ (List.range (ks.length - e.pl)).map fun u => kid lots ks e (ks.length - 1 - u)) = (valE lots ks full size e).or (valW lots ks full size W0) := by
            unfold valW
            rw [List.reverse_append, hrev, List.findSome?_append, valE_kids lots ks full size e hlt, List.findSome?_map]
            rfl
          have hmu2 : mu ks (W0 ++ (List.range (ks.length - e.pl)).map fun u => kid lots ks e (ks.length - 1 - u)) + 1 = mu ks (W0 ++ [e]) := by
            have h1 : ∀ V : List Ent, mu ks V = mu ks V.reverse := fun V => by
              unfold mu
              rw [List.map_reverse, List.sum_reverse]
            have h2 : ∀ V U : List Ent, mu ks (V ++ U) = mu ks V + mu ks U := fun V U => by simp [mu]
            rw [hmu, h2, h1 ((List.range (ks.length - e.pl)).map _), hrev, ← mu_kids lots ks e]
            unfold mu
            rw [List.map_map]
            rfl
          have hle : ∀ V : List Ent, V.length ≤ mu ks V := fun V => by
            induction V with
            | nil => simp [mu]
            | cons x V ih =>
              have : 0 < 2 ^ (ks.length - x.pl) := Nat.pow_pos (by omega)
              have e2 : mu ks (x :: V) = 2 ^ (ks.length - x.pl) + mu ks V := by simp [mu]
              simp only [List.length_cons]
              omega
          refine ⟨mu ks (W0 ++ (List.range (ks.length - e.pl)).map fun u => kid lots ks e (ks.length - 1 - u)), by omega, _, _, _, _, _, rfl, rfl, rfl, by rw [hval2, ← hval, hv], fun x hx => ?_, by omega, hle _⟩
          rcases List.mem_append.mp hx with h | h
          · exact hW x (by simp [h])
          · obtain ⟨u, hu, rfl⟩ := List.mem_map.mp h
            have hu := List.mem_range.mp hu
            have hj : ks.length - 1 - u < ks.length := by omega
            refine ⟨by simp [kid]; omega, by simp [kid]; omega, fun n hn => ?_, by simp [kid]; omega⟩
            unfold kid at hn
            rcases List.mem_append.mp hn with h | h
            · exact he.2.2.1 n h
            · simp only [List.mem_singleton] at h
              rw [h, show ks.getD (ks.length - 1 - u) 0 = ks[ks.length - 1 - u] by simp [List.getD, hj]]
              exact hks _ (List.getElem_mem hj)
structure Cs_least_tests (P : Program) (w : World) (K : PySem.W.Frag) (mg : Str → Option Value) (base : Heap) : Prop where
  parted_pairs : CalQ P w K mg base 1 "parted_pairs" 1 fs_parted_pairs
  undominated : CalQ P w K mg base 1 "undominated" 1 fs_undominated
  first_cover : CalQ P w K mg base 1 "first_cover" 4 fs_first_cover
theorem ok_least_tests {f : Addr} {fd : FuncData} (F : Fun K "least_tests" "least_tests" s_least_tests f fd) (B : Bt mg) (C : Cs_least_tests P w K mg base) (M : Mg K mg) (R : Rs P w K mg base) : FnOk P w K mg base (L2.CX P w) 3 f fd ["asks", "many"] (spQ K 2 fs_least_tests) := by
  have nd := sc_least_tests.nd
  refine fun_q (k := 2) F sc_least_tests 2 rfl (fun cdv A outer s H E hr tk => (qss_cons (qs_if (qt_cmp (op_gt) ref_B0 (qe_var 1) (qe_glob (by rfl) M.MOST_THINGS (fun _ => RD.int _)) (nomark _)) (qss_one (qs_raise rfl R.TooMany hr (by decide) tk (by rfl) (qa_cons (qe_glob (by rfl) M.MOST_THINGS (fun _ => RD.int _)) qa_nil))) qss_nil)
    (qss_cons (qs_setLc (f := .frz) (i := 2) rfl nd rfl rfl (sw_true rfl rfl rfl (by decide +kernel)) (own := [("values", 3), ("ledger", 4)]) (qi_tup (pi_tup (qe_var 0))) (blkOk_by (N := N_least_tests) (sc := defScope s_least_tests) (by decide +kernel)) (fun _ _ _ _ _ => (qgv_tup (n := 2) rfl (qgvs_cons (qgv_name (i := 3) (by decide) nd rfl (by first | exact Or.inl rfl | exact Or.inr rfl)) (qgvs_cons (qgv_name (i := 4) (by decide) nd rfl (by first | exact Or.inl rfl | exact Or.inr rfl)) qgvs_nil)))) (fun _ _ _ _ _ => qts_nil) (fun _ _ _ _ _ => (qe_call C.parted_pairs hr (by decide) takes0 (by rfl) (qa_cons (qe_var 3) qa_nil))))
    (qss_cons (qs_set (i := 5) nd rfl (by first | exact Or.inl rfl | exact Or.inr rfl) (qe_op op_sub ref_I0 (qe_op op_shl ref_II qe_int (qe_op op_fdiv ref_II (qe_op op_mulW ref_II (qe_var 1) (qe_op op_sub ref_I0 (qe_var 1) qe_int)) qe_int)) qe_int))
    (qss_cons (qs_set (i := 6) nd rfl (by first | exact Or.inl rfl | exact Or.inr rfl) qe_int)
    (qss_cons (qs_for (passes_of rfl) rfl (qi_lst (qe_var 2)) (qg_name (i := 7) nd rfl (by first | exact Or.inl rfl | exact Or.inr rfl)) (qss_one (qs_set (i := 6) nd rfl (by first | exact Or.inl rfl | exact Or.inr rfl) (qe_op op_or ref_I0 (qe_var 6) (qe_var 7)))))
    (qss_cons (qs_if (qt_cmp (op_neD hr.units) ref_ne (qe_var 6) (qe_var 5) (nomark _)) (qss_one (qs_ret qe_non)) qss_nil)
    (qss_cons (qs_set (i := 8) nd rfl (by first | exact Or.inl rfl | exact Or.inr rfl) (qe_call C.undominated hr (by decide) tk (by rfl) (qa_cons (qe_var 2) qa_nil)))
    (qss_cons (qs_for (passes_of rfl) rfl (qi_range1 (pi_range1 (by rfl) B.range (qa_cons (qe_op op_add ref_I0 (qe_callB call_len_seq ref_len (by rfl) B.len (by decide +kernel) (qa_cons (qe_var 8) qa_nil)) qe_int) qa_nil))) (qg_name (i := 9) nd rfl (by first | exact Or.inl rfl | exact Or.inr rfl)) (qss_cons (qs_set (i := 10) nd rfl (by first | exact Or.inl rfl | exact Or.inr rfl) (qe_call C.first_cover hr (by decide) tk (by rfl) (qa_cons (qe_var 2) (qa_cons (qe_var 8) (qa_cons (qe_var 5) (qa_cons (qe_var 9) qa_nil))))))
    (qss_one (qs_if (qt_cmp (op_notN) ref_notN (qe_var 10) qe_non (nomark _)) (qss_one (qs_ret (qe_var 10))) qss_nil))))
    (qss_one (qs_ret qe_non))))))))))) (fun ds l Qd Ed hl h => ?_)
  obtain ⟨As, many, rfl, rfl, hA, q, qx⟩ := h
  walk_at "q"
  split
  · exact qx (by omega)
  obtain ⟨hm, hAl, q⟩ := q (by omega)
  have hf := pp_hf hm hAl
  generalize hfull : 2 ^ (many * (many - 1) / 2) - 1 = full at *
  refine lcI (fun i acc l => acc = natsD ((As.take i).map fun a => ppF a.1) ∧ l = []) (by rw [List.length_map]; exact Nat.lt_of_le_of_lt (by omega : _ ≤ 100) (by decide)) ⟨rfl, rfl⟩ ?_ ?_
  · rintro i x acc l hx ha ⟨rfl, rfl⟩
    rw [List.getElem?_map] at hx
    obtain ⟨a, ha1, rfl⟩ := Option.map_eq_some_iff.mp hx
    have hi := (List.getElem?_eq_some_iff.mp ha1).1
    walk_at "q"
    refine ⟨a.1, rfl, rfl, by have := hAl a (List.mem_of_getElem? ha1); omega, ?_⟩
    walk_at "q"
    refine ⟨⟨by rw [ha], by omega⟩, ?_⟩
    rw [List.take_add_one, ha1, Option.toList_some, List.map_append, natsD_app]
    rfl
  · rintro acc l ha ⟨rfl, rfl⟩
    rw [List.length_map, List.take_length]
    have hlotsN : (As.map fun a => ppF a.1).length = As.length := by simp
    generalize (As.map fun a => ppF a.1) = lots at *
    walk_at "q"
    have hmm : (many : Int) * ((many : Int) - 1) / 2 = ((many * (many - 1) / 2 : Nat) : Int) := by
      rcases (by omega : many = 1 ∨ many = 2 ∨ many = 3 ∨ many = 4 ∨ many = 5 ∨ many = 6) with rfl | rfl | rfl | rfl | rfl | rfl <;> rfl
    have hbig : many * (many - 1) / 2 ≤ 15 := by
      rcases (by omega : many = 1 ∨ many = 2 ∨ many = 3 ∨ many = 4 ∨ many = 5 ∨ many = 6) with rfl | rfl | rfl | rfl | rfl | rfl <;> decide
    refine ⟨by unfold CMulW; rcases (by omega : many = 1 ∨ many = 2 ∨ many = 3 ∨ many = 4 ∨ many = 5 ∨ many = 6) with rfl | rfl | rfl | rfl | rfl | rfl <;> decide, by rw [hmm]; exact ⟨by omega, by omega, by decide⟩, ?_⟩
    rw [hmm, pow_cast, show ((2 ^ (many * (many - 1) / 2) : Nat) : Int) - 1 = (full : Int) by have : 0 < 2 ^ (many * (many - 1) / 2) := Nat.pow_pos (by omega); omega]
    refine loopX (fun i σ l => ∃ x7, σ = [some (.d (asksD As)), some (.d (.int many)), some (.d (.lst (natsD lots))), none, none, some (.d (.int full)), some (.d (.int (orL lots (List.range i) : Nat))), x7, none, none, none] ∧ l = []) ⟨_, rfl, rfl⟩ ?_ ?_
    · rintro i x σ l hx ⟨x7, rfl, rfl⟩
      unfold natsD at hx
      rw [List.getElem?_map] at hx
      obtain ⟨z, hz, rfl⟩ := Option.map_eq_some_iff.mp hx
      walk_at "q"
      rw [or_cast, orL_succ, show lots.getD i 0 = z by simp [List.getD, hz]]
      exact ⟨_, rfl⟩
    · rintro σ l ⟨x7, rfl, rfl⟩
      rw [natsD_len]
      walk_at "q"
      rw [hlotsN]
      by_cases hor : orL lots (List.range As.length) = full
      · rw [if_neg (by simp [hor])]
        refine ⟨lots, rfl, rfl, by omega, fun kept hK => ?_⟩
        walk_at "q"
        have hkl : kept.length ≤ 7 := by
          have := (sub_of (rng_sorted lots.length) hK.sorted fun n hn => List.mem_range.mpr (hK.lt n hn)).length_le
          simp at this
          omega
        rw [hlotsN] at hK
        rw [← best_kept hK hf] at q
        rw [natsD_len]
        refine ⟨by omega, by omega, ?_⟩
        refine loopR (fun i σ l => ∃ xa xb, σ = [some (.d (asksD As)), some (.d (.int many)), some (.d (.lst (natsD lots))), none, none, some (.d (.int full)), some (.d (.int (orL lots (List.range As.length) : Nat))), x7, some (.loc 0), xa, xb] ∧ l = [.lst (natsD kept)] ∧ ∀ j, j < i → (combos kept j).find? (cov lots full) = none) ⟨_, _, rfl, rfl, by omega⟩ ?_ ?_
        · rintro i σ l hi ⟨xa, xb, rfl, rfl, hno⟩
          walk_at "q"
          refine ⟨lots, kept, full, i, rfl, rfl, by omega, hkl, fun n hn => by rw [hlotsN]; exact hK.lt n hn, ?_⟩
          cases hfi : (combos kept i).find? (cov lots full) with
          | none =>
            simp only [optD]
            walk_at "q"
            refine ⟨_, _, rfl, fun j hj => ?_⟩
            by_cases ej : j = i
            · rw [ej]; exact hfi
            · exact hno j (by omega)
          | some S =>
            simp only [optD]
            walk_at "q"
            rw [best_some hfi hno] at q
            exact q
        · rintro σ l ⟨xa, xb, rfl, rfl, hno⟩
          walk_at "q"
          rw [best_none fun k => ?_] at q
          · exact q
          · by_cases hk : k < ((kept.length : Int) + 1).toNat
            · exact hno k hk
            · rw [combos_big kept k (by omega)]
              rfl
      · rw [if_pos (by omega)]
        rw [best_none_of hf hor] at q
        exact q
theorem ok_parted_from {f : Addr} {fd : FuncData} (F : Fun K "parted_from" "parted_from" s_parted_from f fd) (B : Bt mg) : FnOk P w K mg base (L2.CX P w) 1 f fd ["values", "thing"] (spQ K 2 fs_parted_from) := by
  have nd := sc_parted_from.nd
  refine fun_q (k := 0) F sc_parted_from 2 rfl (fun cdv A outer s H E hr tk => (qss_one (qs_ret (qe_callB (cr_sum rfl) ref_sum (by rfl) B.sum (by decide +kernel) (qa_cons (qe_lc (f := .frz) (own := [("other", 2)]) rfl nd (qi_range1 (pi_range1 (by rfl) B.range (qa_cons (qe_callB call_len_seq ref_len (by rfl) B.len (by decide +kernel) (qa_cons (qe_var 0) qa_nil)) qa_nil))) (blkOk_by (N := N_parted_from) (sc := defScope s_parted_from) (by decide +kernel)) (fun _ _ _ _ _ => (qgv_name (i := 2) (by decide) nd rfl (by first | exact Or.inl rfl | exact Or.inr rfl))) (fun _ _ _ _ _ => (qts_one (qt_cmp (op_neD hr.units) ref_ne (qe_ix (qe_var 0) (qe_var 2) (fun _ _ => rfl)) (qe_ix (qe_var 0) (qe_var 1) (fun _ _ => rfl)) (nomark _)))) (fun _ _ _ _ _ => (qe_op op_shl ref_II qe_int (qe_var 2)))) qa_nil))))) (fun ds l Qd Ed hl h => ?_)
  obtain ⟨v, t, rfl, rfl, hv, ht, q⟩ := h
  walk_at "q"
  refine ⟨by omega, by omega, ?_⟩
  refine lcF (fun i acc l => acc.length ≤ i ∧ i ≤ v.length ∧ l = [] ∧ ∃ ns : List Int, acc = ns.map .int ∧ ns.sum = (bitsOf ((List.range i).map fun o => dif v (o, t)) : Nat)) (by rw [rangeD_len]; exact Nat.lt_of_le_of_lt (by omega : _ ≤ 100) (by decide)) ⟨by simp, by omega, rfl, [], rfl, rfl⟩ (fun i acc l h => ⟨h.1, by rw [rangeD_len]; have := h.2.1; omega⟩) ?_ ?_
  · rintro i x acc l hx ⟨ha, hi, rfl, ns, rfl, hs⟩
    obtain ⟨hi2, rfl⟩ := rangeD_get hx
    have hi3 : i < v.length := by omega
    have hb : bitsOf ((List.range (i + 1)).map fun o => dif v (o, t)) = bitsOf ((List.range i).map fun o => dif v (o, t)) + if dif v (i, t) = true then 2 ^ i else 0 := by
      rw [List.range_succ, List.map_append]
      show bitsOf (_ ++ [dif v (i, t)]) = _
      rw [bitsOf_app, List.length_map, List.length_range]
    walk_at "q"
    refine ⟨_, atI_m (j := i) (by omega) (getD_at hi3), _, atI_m rfl (getD_at ht), ?_⟩
    rw [D.eqv_int, hb, pow_cast]
    simp only [List.length_map] at ha
    refine ⟨by simp [dOk_int], by simp [dOk_int], ?_⟩
    by_cases e : v.getD i 0 = v.getD t 0
    · have hd : dif v (i, t) = false := decide_eq_false (fun h => h e)
      rw [if_neg (by rw [decide_eq_true e]; decide), hd]
      exact ⟨by omega, by omega, ns, rfl, by simp [hs]⟩
    · have hd : dif v (i, t) = true := decide_eq_true e
      rw [if_pos (decide_eq_false e), hd]
      exact ⟨⟨by omega, by omega, by decide⟩, by omega, by omega, ns ++ [((2 ^ i : Nat) : Int)], by simp, by simp [hs, List.sum_append]⟩
  · rintro acc l ⟨ha, hi, rfl, ns, rfl, hs⟩
    walk_at "q"
    rw [rangeD_len, show (v.length : Int).toNat = v.length by omega] at hs
    refine ⟨ns, rfl, ?_⟩
    rw [hs]
    exact q
structure Cs_lesson (P : Program) (w : World) (K : PySem.W.Frag) (mg : Str → Option Value) (base : Heap) : Prop where
  undominated : CalQ P w K mg base 1 "undominated" 1 fs_undominated
  first_cover : CalQ P w K mg base 1 "first_cover" 4 fs_first_cover
  parted_from : CalQ P w K mg base 1 "parted_from" 2 fs_parted_from
theorem ok_lesson {f : Addr} {fd : FuncData} (F : Fun K "lesson" "lesson" s_lesson f fd) (B : Bt mg) (C : Cs_lesson P w K mg base) (M : Mg K mg) (R : Rs P w K mg base) : FnOk P w K mg base (L2.CX P w) 3 f fd ["asks", "many", "thing"] (spQ K 3 fs_lesson) := by
  have nd := sc_lesson.nd
  refine fun_q (k := 2) F sc_lesson 3 rfl (fun cdv A outer s H E hr tk => (qss_cons (qs_if (qt_cmp (op_gt) ref_B0 (qe_var 1) (qe_glob (by rfl) M.MOST_THINGS (fun _ => RD.int _)) (nomark _)) (qss_one (qs_raise rfl R.TooMany hr (by decide) tk (by rfl) (qa_cons (qe_glob (by rfl) M.MOST_THINGS (fun _ => RD.int _)) qa_nil))) qss_nil)
    (qss_cons (qs_setLc (f := .frz) (i := 3) rfl nd rfl rfl (sw_true rfl rfl rfl (by decide +kernel)) (own := [("values", 4), ("ledger", 5)]) (qi_tup (pi_tup (qe_var 0))) (blkOk_by (N := N_lesson) (sc := defScope s_lesson) (by decide +kernel)) (fun _ _ _ _ _ => (qgv_tup (n := 2) rfl (qgvs_cons (qgv_name (i := 4) (by decide) nd rfl (by first | exact Or.inl rfl | exact Or.inr rfl)) (qgvs_cons (qgv_name (i := 5) (by decide) nd rfl (by first | exact Or.inl rfl | exact Or.inr rfl)) qgvs_nil)))) (fun _ _ _ _ _ => qts_nil) (fun _ _ _ _ _ => (qe_call C.parted_from hr (by decide) takes0 (by rfl) (qa_cons (qe_var 4) (qa_cons (qe_var 2) qa_nil)))))
    (qss_cons (qs_set (i := 6) nd rfl (by first | exact Or.inl rfl | exact Or.inr rfl) (qe_op op_sub ref_I0 (qe_op op_sub ref_I0 (qe_op op_shl ref_II qe_int (qe_var 1)) qe_int) (qe_op op_shl ref_II qe_int (qe_var 2))))
    (qss_cons (qs_set (i := 7) nd rfl (by first | exact Or.inl rfl | exact Or.inr rfl) qe_int)
    (qss_cons (qs_for (passes_of rfl) rfl (qi_lst (qe_var 3)) (qg_name (i := 8) nd rfl (by first | exact Or.inl rfl | exact Or.inr rfl)) (qss_one (qs_set (i := 7) nd rfl (by first | exact Or.inl rfl | exact Or.inr rfl) (qe_op op_or ref_I0 (qe_var 7) (qe_var 8)))))
    (qss_cons (qs_if (qt_cmp (op_neD hr.units) ref_ne (qe_var 7) (qe_var 6) (nomark _)) (qss_one (qs_ret qe_non)) qss_nil)
    (qss_cons (qs_set (i := 9) nd rfl (by first | exact Or.inl rfl | exact Or.inr rfl) (qe_call C.undominated hr (by decide) tk (by rfl) (qa_cons (qe_var 3) qa_nil)))
    (qss_cons (qs_for (passes_of rfl) rfl (qi_range1 (pi_range1 (by rfl) B.range (qa_cons (qe_op op_add ref_I0 (qe_callB call_len_seq ref_len (by rfl) B.len (by decide +kernel) (qa_cons (qe_var 9) qa_nil)) qe_int) qa_nil))) (qg_name (i := 10) nd rfl (by first | exact Or.inl rfl | exact Or.inr rfl)) (qss_cons (qs_set (i := 11) nd rfl (by first | exact Or.inl rfl | exact Or.inr rfl) (qe_call C.first_cover hr (by decide) tk (by rfl) (qa_cons (qe_var 3) (qa_cons (qe_var 9) (qa_cons (qe_var 6) (qa_cons (qe_var 10) qa_nil))))))
    (qss_one (qs_if (qt_cmp (op_notN) ref_notN (qe_var 11) qe_non (nomark _)) (qss_one (qs_ret (qe_var 11))) qss_nil))))
    (qss_one (qs_ret qe_non))))))))))) (fun ds l Qd Ed hl h => ?_)
  obtain ⟨As, many, thing, rfl, rfl, hA, q, qx⟩ := h
  walk_at "q"
  split
  · exact qx (by omega)
  obtain ⟨t, rfl, ht, hm, hAl, q⟩ := q (by omega)
  have hf := pf_hf hm ht hAl
  have hfull0 : ((2 ^ many : Nat) : Int) - 1 - ((2 ^ t : Nat) : Int) = ((2 ^ many - 1 - 2 ^ t : Nat) : Int) := by
    have : 2 ^ (t + 1) ≤ 2 ^ many := Nat.pow_le_pow_right (by omega) (by omega)
    have : 2 ^ (t + 1) = 2 ^ t * 2 := Nat.pow_succ ..
    have : 0 < 2 ^ t := Nat.pow_pos (by omega)
    omega
  generalize hfull : 2 ^ many - 1 - 2 ^ t = full at *
  refine lcI (fun i acc l => acc = natsD ((As.take i).map fun a => pfF a.1 t) ∧ l = []) (by rw [List.length_map]; exact Nat.lt_of_le_of_lt (by omega : _ ≤ 100) (by decide)) ⟨rfl, rfl⟩ ?_ ?_
  · rintro i x acc l hx ha ⟨rfl, rfl⟩
    rw [List.getElem?_map] at hx
    obtain ⟨a, ha1, rfl⟩ := Option.map_eq_some_iff.mp hx
    have hi := (List.getElem?_eq_some_iff.mp ha1).1
    have hal := hAl a (List.mem_of_getElem? ha1)
    walk_at "q"
    refine ⟨a.1, t, rfl, rfl, by omega, by omega, ?_⟩
    walk_at "q"
    refine ⟨⟨by rw [ha], by omega⟩, ?_⟩
    rw [List.take_add_one, ha1, Option.toList_some, List.map_append, natsD_app]
    rfl
  · rintro acc l ha ⟨rfl, rfl⟩
    rw [List.length_map, List.take_length]
    have hlotsN : (As.map fun a => pfF a.1 t).length = As.length := by simp
    generalize (As.map fun a => pfF a.1 t) = lots at *
    walk_at "q"
    refine ⟨⟨by omega, by omega, by decide⟩, ⟨by omega, by omega, by decide⟩, ?_⟩
    rw [pow_cast, pow_cast, hfull0]
    refine loopX (fun i σ l => ∃ x7, σ = [some (.d (asksD As)), some (.d (.int many)), some (.d (.int t)), some (.d (.lst (natsD lots))), none, none, some (.d (.int full)), some (.d (.int (orL lots (List.range i) : Nat))), x7, none, none, none] ∧ l = []) ⟨_, rfl, rfl⟩ ?_ ?_
    · rintro i x σ l hx ⟨x7, rfl, rfl⟩
      unfold natsD at hx
      rw [List.getElem?_map] at hx
      obtain ⟨z, hz, rfl⟩ := Option.map_eq_some_iff.mp hx
      walk_at "q"
      rw [or_cast, orL_succ, show lots.getD i 0 = z by simp [List.getD, hz]]
      exact ⟨_, rfl⟩
    · rintro σ l ⟨x7, rfl, rfl⟩
      rw [natsD_len]
      walk_at "q"
      rw [hlotsN]
      by_cases hor : orL lots (List.range As.length) = full
      · rw [if_neg (by simp [hor])]
        refine ⟨lots, rfl, rfl, by omega, fun kept hK => ?_⟩
        walk_at "q"
        have hkl : kept.length ≤ 7 := by
          have := (sub_of (rng_sorted lots.length) hK.sorted fun n hn => List.mem_range.mpr (hK.lt n hn)).length_le
          simp at this
          omega
        rw [hlotsN] at hK
        rw [← best_kept hK hf] at q
        rw [natsD_len]
        refine ⟨by omega, by omega, ?_⟩
        refine loopR (fun i σ l => ∃ xa xb, σ = [some (.d (asksD As)), some (.d (.int many)), some (.d (.int t)), some (.d (.lst (natsD lots))), none, none, some (.d (.int full)), some (.d (.int (orL lots (List.range As.length) : Nat))), x7, some (.loc 0), xa, xb] ∧ l = [.lst (natsD kept)] ∧ ∀ j, j < i → (combos kept j).find? (cov lots full) = none) ⟨_, _, rfl, rfl, by omega⟩ ?_ ?_
        · rintro i σ l hi ⟨xa, xb, rfl, rfl, hno⟩
          walk_at "q"
          refine ⟨lots, kept, full, i, rfl, rfl, by omega, hkl, fun n hn => by rw [hlotsN]; exact hK.lt n hn, ?_⟩
          cases hfi : (combos kept i).find? (cov lots full) with
          | none =>
            simp only [optD]
            walk_at "q"
            refine ⟨_, _, rfl, fun j hj => ?_⟩
            by_cases ej : j = i
            · rw [ej]; exact hfi
            · exact hno j (by omega)
          | some S =>
            simp only [optD]
            walk_at "q"
            rw [best_some hfi hno] at q
            exact q
        · rintro σ l ⟨xa, xb, rfl, rfl, hno⟩
          walk_at "q"
          rw [best_none fun k => ?_] at q
          · exact q
          · by_cases hk : k < ((kept.length : Int) + 1).toNat
            · exact hno k hk
            · rw [combos_big kept k (by omega)]
              rfl
      · rw [if_pos (by omega)]
        rw [best_none_of hf hor] at q
        exact q
structure Cs_hardest (P : Program) (w : World) (K : PySem.W.Frag) (mg : Str → Option Value) (base : Heap) : Prop where
  lesson : CalQ P w K mg base 3 "lesson" 3 fs_lesson
theorem ok_hardest {f : Addr} {fd : FuncData} (F : Fun K "hardest" "hardest" s_hardest f fd) (B : Bt mg) (C : Cs_hardest P w K mg base) : FnOk P w K mg base (L2.CX P w) 4 f fd ["asks", "many"] (spQ K 2 fs_hardest) := by
  have nd := sc_hardest.nd
  refine fun_q (k := 3) F sc_hardest 2 rfl (fun cdv A outer s H E hr tk => (qss_cons (qs_set (i := 2) nd rfl (by first | exact Or.inl rfl | exact Or.inr rfl) qe_non)
    (qss_cons (qs_for (passes_of rfl) rfl (qi_range1 (pi_range1 (by rfl) B.range (qa_cons (qe_var 1) qa_nil))) (qg_name (i := 3) nd rfl (by first | exact Or.inl rfl | exact Or.inr rfl)) (qss_cons (qs_set (i := 4) nd rfl (by first | exact Or.inl rfl | exact Or.inr rfl) (qe_call C.lesson hr (by decide) tk (by rfl) (qa_cons (qe_var 0) (qa_cons (qe_var 1) (qa_cons (qe_var 3) qa_nil)))))
    (qss_cons (qs_if (qt_cmp (op_isN) ref_isN (qe_var 4) qe_non (nomark _)) (qss_one (qs_ret qe_non)) qss_nil)
    (qss_one (qs_if (QW.qt (qw_or (qt_cmp (op_isN) ref_isN (qe_var 2) qe_non (nomark _)) (qw_or1 (qt_cmp (op_gt) ref_B0 (qe_callB call_len_seq ref_len (by rfl) B.len (by decide +kernel) (qa_cons (qe_var 4) qa_nil)) (qe_ix (qe_var 2) qe_int (fun _ _ => rfl)) (nomark _))))) (qss_one (qs_set (i := 2) nd rfl (by first | exact Or.inl rfl | exact Or.inr rfl) (qe_tup (qa_cons (qe_var 3) (qa_cons (qe_callB call_len_seq ref_len (by rfl) B.len (by decide +kernel) (qa_cons (qe_var 4) qa_nil)) qa_nil))))) qss_nil)))))
    (qss_one (qs_ret (qe_var 2)))))) (fun ds l Qd Ed hl h => ?_)
  obtain ⟨As, many, rfl, rfl, hA, hm, hl, q⟩ := h
  walk_at "q"
  refine ⟨by omega, by omega, ?_⟩
  refine loopR (fun i σ l => ∃ (found : Option (Nat × Nat)) (x3 x4 : Option QL.P), σ = [some (.d (asksD As)), some (.d (.int many)), some (.d (hardD found)), x3, x4] ∧ l = [] ∧ hardF ((List.range many).map (lesF As many)) 0 none = hardF ((List.range' i (many - i)).map (lesF As many)) i found) ⟨none, _, _, rfl, rfl, by rw [List.range_eq_range']; rfl⟩ ?_ ?_
  · rintro i σ l hi ⟨found, x3, x4, rfl, rfl, hh⟩
    have hi : i < many := by omega
    have hr : List.range' i (many - i) = i :: List.range' (i + 1) (many - (i + 1)) := by
      rw [show many - i = (many - (i + 1)) + 1 by omega, List.range'_succ]
    rw [hr, List.map_cons] at hh
    walk_at "q"
    refine ⟨As, many, _, rfl, rfl, hA, fun _ => ⟨i, by omega, hi, hm, hl, ?_⟩, fun h => by omega⟩
    rw [show best (List.range As.length) (cov (As.map fun a => pfF a.1 i) (2 ^ many - 1 - 2 ^ i)) = lesF As many i from rfl]
    cases hl2 : lesF As many i with
    | none =>
      simp only [optD]
      walk_at "q"
      rw [hh, hl2] at q
      exact q
    | some S =>
      rw [hl2] at hh
      simp only [optD]
      cases found with
      | none =>
        simp only [hardD]
        walk_at "q"
        exact ⟨some (i, S.length), _, _, by rw [natsD_len], hh⟩
      | some uk =>
        obtain ⟨u, k⟩ := uk
        simp only [hardD]
        walk_at "q"
        rw [natsD_len]
        by_cases hk : k < S.length
        · rw [if_pos (by omega)]
          refine ⟨some (i, S.length), _, _, rfl, ?_⟩
          rw [hh]
          show hardF _ _ (if k < S.length then some (i, S.length) else some (u, k)) = _
          rw [if_pos hk]
        · rw [if_neg (by omega)]
          refine ⟨some (u, k), _, _, rfl, ?_⟩
          rw [hh]
          show hardF _ _ (if k < S.length then some (i, S.length) else some (u, k)) = _
          rw [if_neg hk]
  · rintro σ l ⟨found, x3, x4, rfl, rfl, hh⟩
    walk_at "q"
    rw [show many - ((many : Int)).toNat = 0 by omega] at hh
    rw [hh] at q
    exact q
theorem ok_law_mixed {f : Addr} {fd : FuncData} (F : Fun K "_law_mixed" "_law_mixed" s_law_mixed f fd) (B : Bt mg) : FnOk P w K mg base (L2.CX P w) 1 f fd ["number", "place"] (spQ K 2 fs_law_mixed) := by
  have nd := sc_law_mixed.nd
  refine fun_q (k := 0) F sc_law_mixed 2 rfl (fun cdv A outer s H E hr tk => (qss_cons (qs_set (i := 2) nd rfl (by first | exact Or.inl rfl | exact Or.inr rfl) qe_int)
    (qss_cons (qs_set (i := 3) nd rfl (by first | exact Or.inl rfl | exact Or.inr rfl) (qe_op op_mod ref_II (qe_callTy call_int1 ref_int (by rfl) B.int (by decide +kernel) (qa_cons (qe_op op_add ref_I0 (qe_op op_add ref_I0 (qe_op op_mul ref_II (qe_var 0) qe_int) (qe_op op_mul ref_II (qe_var 1) qe_int)) qe_int) qa_nil)) qe_int))
    (qss_cons (qs_for (passes_of rfl) rfl (qi_range1 (pi_range1 (by rfl) B.range (qa_cons qe_int qa_nil))) (qg_name (i := 4) nd rfl (by first | exact Or.inl rfl | exact Or.inr rfl)) (qss_cons (qs_set (i := 3) nd rfl (by first | exact Or.inl rfl | exact Or.inr rfl) (qe_op op_mod ref_II (qe_callTy call_int1 ref_int (by rfl) B.int (by decide +kernel) (qa_cons (qe_op op_add ref_I0 (qe_op op_add ref_I0 (qe_op op_mul ref_II (qe_var 3) qe_int) (qe_op op_mul ref_II (qe_var 4) qe_int)) qe_int) qa_nil)) qe_int))
    (qss_one (qs_set (i := 2) nd rfl (by first | exact Or.inl rfl | exact Or.inr rfl) (qe_op op_add ref_I0 (qe_op op_mul ref_II (qe_var 2) qe_int) (qe_op op_mod ref_II (qe_callTy call_int1 ref_int (by rfl) B.int (by decide +kernel) (qa_cons (qe_op op_add ref_I0 (qe_op op_mul ref_II (qe_var 3) (qe_var 3)) (qe_op op_mul ref_II (qe_var 4) qe_int)) qa_nil)) qe_int))))))
    (qss_one (qs_ret (qe_var 2))))))) (fun ds l Qd Ed hl h => ?_)
  obtain ⟨a, b, rfl, rfl, q⟩ := h
  walk_at "q"
  refine loopR (fun i σ l => ∃ t s x, σ = [some (.d (.int a)), some (.d (.int b)), some (.d (.int t)), some (.d (.int s)), x] ∧ l = [] ∧ 0 ≤ t ∧ 0 ≤ s ∧ s < 2147483647) ?_ ?_ ?_
  · exact ⟨0, _, _, rfl, rfl, by omega, by omega, by omega⟩
  · rintro i σ l hi ⟨t, s, x, rfl, rfl, h1, h2, h3⟩
    walk_at "q"
    have m1 := Int.emod_nonneg (s * 48271 + (i : Int) * 69621 + 12345) (show (2147483647 : Int) ≠ 0 by decide)
    have m2 := Int.emod_lt_of_pos (s * 48271 + (i : Int) * 69621 + 12345) (show (0 : Int) < 2147483647 by decide)
    generalize (s * 48271 + (i : Int) * 69621 + 12345) % 2147483647 = m at *
    have m3 := Int.emod_nonneg (m * m + (i : Int) * 7) (show (2147483647 : Int) ≠ 0 by decide)
    exact ⟨.inl ⟨by omega, by omega⟩, _, _, _, rfl, by omega, m1, m2⟩
  · rintro σ l ⟨t, s, x, rfl, rfl, h1, h2, h3⟩
    walk_at "q"
    exact q _ h1
structure Cs_law_purse (P : Program) (w : World) (K : PySem.W.Frag) (mg : Str → Option Value) (base : Heap) : Prop where
  law_mixed : CalQ P w K mg base 1 "_law_mixed" 2 fs_law_mixed
theorem ok_law_purse {f : Addr} {fd : FuncData} (F : Fun K "_law_purse" "_law_purse" s_law_purse f fd) (B : Bt mg) (C : Cs_law_purse P w K mg base) : FnOk P w K mg base (L2.CX P w) 2 f fd ["script"] (spQ K 1 fs_law_purse) := by
  have nd := sc_law_purse.nd
  refine fun_q (k := 1) F sc_law_purse 1 rfl (fun cdv A outer s H E hr tk => (qss_cons (qs_set (i := 1) nd rfl (by first | exact Or.inl rfl | exact Or.inr rfl) (qe_lst (f := .cell) qa_nil))
    (qss_cons (qs_set (i := 2) nd rfl (by first | exact Or.inl rfl | exact Or.inr rfl) (qe_lst (f := .cell) qa_nil))
    (qss_cons (qs_for (passes_of rfl) rfl (qi_range1 (pi_range1 (by rfl) B.range (qa_cons (qe_callB call_len_seq ref_len (by rfl) B.len (by decide +kernel) (qa_cons (qe_sl sl_list (ref_slL (f := .frz)) (qe_var 0) qo_none (qo_some qe_int)) qa_nil)) qa_nil))) (qg_name (i := 3) nd rfl (by first | exact Or.inl rfl | exact Or.inr rfl)) (qss_cons (qs_set (i := 4) nd rfl (by first | exact Or.inl rfl | exact Or.inr rfl) (qe_ifE (qt_cmp (op_ge) ref_B0 (qe_ix (qe_var 0) (qe_var 3) (fun _ _ => rfl)) qe_int (nomark _)) (qe_ix (qe_var 0) (qe_var 3) (fun _ _ => rfl)) (qe_un un_neg ref_U (qe_ix (qe_var 0) (qe_var 3) (fun _ _ => rfl)))))
    (qss_one (qs_if (qt_cmp (op_ge) ref_B0 (qe_var 4) qe_int (nomark _)) (qss_cons (qs_expr (qe_bm PySem.F.slot_list_append PySem.F.type_list_append mt_append ref_append (qe_var 1) (qa_cons (qe_op op_fdiv ref_II (qe_var 4) qe_int) qa_nil)))
    (qss_one (qs_expr (qe_bm PySem.F.slot_list_append PySem.F.type_list_append mt_append ref_append (qe_var 2) (qa_cons (qe_call C.law_mixed hr (by decide) tk (by rfl) (qa_cons (qe_op op_mod ref_II (qe_callTy call_int1 ref_int (by rfl) B.int (by decide +kernel) (qa_cons (qe_var 4) qa_nil)) qe_int) (qa_cons (qe_var 3) qa_nil))) qa_nil))))) (qss_one (qs_expr (qe_bm PySem.F.slot_list_append PySem.F.type_list_append mt_append ref_append (qe_var 1) (qa_cons (qe_call C.law_mixed hr (by decide) tk (by rfl) (qa_cons (qe_op op_add ref_I0 (qe_op op_mul ref_II qe_int (qe_op op_mod ref_II (qe_callTy call_int1 ref_int (by rfl) B.int (by decide +kernel) (qa_cons (qe_var 4) qa_nil)) qe_int)) (qe_ifE (qt_cmp (op_lt) ref_B0 (qe_ix (qe_var 0) (qe_var 3) (fun _ _ => rfl)) qe_int (nomark _)) qe_int qe_int)) (qa_cons (qe_var 3) qa_nil))) qa_nil))))))))
    (qss_one (qs_ret (qe_ifE (qt_cmp (op_gt) ref_B0 (qe_callB call_len_seq ref_len (by rfl) B.len (by decide +kernel) (qa_cons (qe_var 1) qa_nil)) qe_int (nomark _)) (qe_op op_cat (ref_cat (f := .cell)) (qe_var 1) (qe_var 2)) (qe_lst (f := .cell) (qa_cons (qe_call C.law_mixed hr (by decide) tk (by rfl) (qa_cons qe_int (qa_cons qe_int qa_nil))) qa_nil))))))))) (fun ds l Qd Ed hl h => ?_)
  obtain ⟨ns, rfl, rfl, hn, q⟩ := h
  walk_at "q"
  rw [show QL.cutD (ns.map D.int) none (some 63) = ns.map D.int from cut63 (k := 63) (by simpa using hn)]
  simp only [List.length_map]
  refine ⟨by omega, by omega, ?_⟩
  refine loopR (fun i σ l => ∃ (xs bs : List Int) (x y : Option QL.P), σ = [some (.d (.scr (ns.map .int))), some (.loc 0), some (.loc 1), x, y] ∧ l = [.lst (xs.map .int), .lst (bs.map .int)] ∧ xs.length = i ∧ bs.length ≤ i ∧ (∀ n ∈ xs, 0 ≤ n) ∧ (∀ n ∈ bs, 0 ≤ n)) ⟨[], [], _, _, rfl, rfl, rfl, by simp, by simp, by simp⟩ ?_ ?_
  · rintro i σ l hi ⟨xs, bs, x, y, rfl, rfl, ha, hb, h1, h2⟩
    walk_at "q"
    have hi2 : i < ns.length := by omega
    simp only [atI_m (f := D.int) (k := (i : Int)) rfl (get_at hi2), Option.some.injEq, exists_eq_left']
    generalize ns[i] = v
    have end1 : ∀ (n : Nat), n < 100 → n < sizeLine := fun n h => Nat.lt_trans h (by decide)
    have big : ∀ u : Int, u ≥ 1000000000000000000 → (∀ n : Int, n ∈ xs ++ [u / 2] → 0 ≤ n) := fun u hu n h => by
      rcases List.mem_append.mp h with h | h
      · exact h1 n h
      · simp at h; omega
    have add : ∀ (zs : List Int) (r : Int), (∀ n ∈ zs, 0 ≤ n) → 0 ≤ r → ∀ n : Int, n ∈ zs ++ [r] → 0 ≤ n := fun zs r hz hr n h => by
      rcases List.mem_append.mp h with h | h
      · exact hz n h
      · simp at h; omega
    split <;> split
    · rename_i h3 h4
      refine ⟨by decide, end1 _ (by omega), _, _, rfl, rfl, fun r hr => ?_⟩
      walk_at "q"
      exact ⟨end1 _ (by omega), xs ++ [v / 2], bs ++ [r], _, _, rfl, by simp, by simp [ha], by simp; omega, big v h4, add bs r h2 hr⟩
    · rename_i h3 h4
      split
      all_goals
        refine ⟨_, _, rfl, rfl, fun r hr => ?_⟩
        walk_at "q"
        exact ⟨end1 _ (by omega), xs ++ [r], bs, _, _, rfl, by simp, by simp [ha], by omega, add xs r h1 hr, h2⟩
    · rename_i h3 h4
      refine ⟨end1 _ (by omega), _, _, rfl, rfl, fun r hr => ?_⟩
      walk_at "q"
      exact ⟨end1 _ (by omega), xs ++ [-v / 2], bs ++ [r], _, _, rfl, by simp, by simp [ha], by simp; omega, big (-v) h4, add bs r h2 hr⟩
    · rename_i h3 h4
      split
      all_goals
        refine ⟨_, _, rfl, rfl, fun r hr => ?_⟩
        walk_at "q"
        exact ⟨end1 _ (by omega), xs ++ [r], bs, _, _, rfl, by simp, by simp [ha], by omega, add xs r h1 hr, h2⟩
  · rintro σ l ⟨xs, bs, x, y, rfl, rfl, ha, hb, h1, h2⟩
    walk_at "q"
    split
    · refine ⟨Nat.le_of_lt (Nat.lt_of_le_of_lt (show xs.length + bs.length ≤ 1000 by omega) (by decide)), ?_⟩
      have := q (xs ++ bs) (by simp; omega) (fun n h => by
        rcases List.mem_append.mp h with h | h
        · exact h1 n h
        · exact h2 n h)
      simpa using this
    · refine ⟨_, _, rfl, rfl, fun r hr => ?_⟩
      walk_at "q"
      have := q [r] (by simp) (by simpa using hr)
      simpa using this
theorem ok_law_take {f : Addr} {fd : FuncData} (F : Fun K "_law_take" "_law_take" s_law_take f fd) (B : Bt mg) : FnOk P w K mg base (L2.CX P w) 1 f fd ["purse", "many"] (spQ K 2 fs_law_take) := by
  have nd := sc_law_take.nd
  refine fun_q (k := 0) F sc_law_take 2 rfl (fun cdv A outer s H E hr tk => (qss_cons (qs_while (passes_of rfl) (QW.qt (qw_and (qt_cmp (op_gt) ref_B0 (qe_callB call_len_seq ref_len (by rfl) B.len (by decide +kernel) (qa_cons (qe_var 0) qa_nil)) qe_int (nomark _)) (qw_and1 (qt_cmp (op_eqD hr.units) ref_eq (qe_ix (qe_var 0) qe_int (fun _ _ => rfl)) qe_int (nomark _))))) (qss_one (qs_expr (qe_bm PySem.F.slot_list_pop PySem.F.type_list_pop mt_popAt ref_popAt (qe_var 0) (qa_cons qe_int qa_nil)))))
    (qss_cons (qs_if (qt_cmp (op_eqD hr.units) ref_eq (qe_callB call_len_seq ref_len (by rfl) B.len (by decide +kernel) (qa_cons (qe_var 0) qa_nil)) qe_int (nomark _)) (qss_one (qs_ret qe_int)) qss_nil)
    (qss_cons (qs_set (i := 2) nd rfl (by first | exact Or.inl rfl | exact Or.inr rfl) (qe_op op_mod ref_II (qe_callTy call_int1 ref_int (by rfl) B.int (by decide +kernel) (qa_cons (qe_ix (qe_var 0) qe_int (fun _ _ => rfl)) qa_nil)) (qe_var 1)))
    (qss_cons (qs_asg (qe_op op_fdiv ref_II (qe_ix (qe_var 0) qe_int (fun _ _ => rfl)) (qe_var 1)) (qg_subL (W := W0) (qe_var 0) qe_int))
    (qss_one (qs_ret (qe_var 2)))))))) (fun ds l Qd Ed hl h => ?_)
  obtain ⟨ns, m, rfl, rfl, hp, h1, h2, q⟩ := h
  walk_at "q"
  refine whileI (fun σ l => ∃ ns', σ = [some (.loc 0), some (.d (.int m)), none] ∧ l = [.lst (ns'.map .int)] ∧ Pur ns') (fun _ l => match l with | [.lst ws] => ws.length | _ => 0) ⟨_, rfl, rfl, hp⟩ ?_
  rintro σ l ⟨ns', rfl, rfl, hp'⟩
  cases ns' with
  | nil =>
    walk_at "q"
    exact q 0 [] (by omega) (by omega) hp'
  | cons x r =>
    walk_at "q"
    have hx : 0 ≤ x := hp'.2 x (by simp)
    have hr : Pur r := ⟨by have := hp'.1; simp at this; omega, fun n h => hp'.2 n (by simp [h])⟩
    have m1 := Int.emod_nonneg x (show m ≠ 0 by omega)
    have m2 := Int.emod_lt_of_pos x (show 0 < m by omega)
    split
    · exact ⟨0, D.int x, rfl, rfl, r.length, by omega, by simp, r, rfl, hr⟩
    · refine ⟨by omega, ⟨by omega, by omega⟩, q (x % m) (x / m :: r) m1 m2 ⟨by have := hp'.1; simpa using this, fun n h => ?_⟩⟩
      rcases List.mem_cons.mp h with h | h
      · rw [h]
        exact Int.ediv_nonneg hx (by omega)
      · exact hr.2 n h
structure Cs_law_row (P : Program) (w : World) (K : PySem.W.Frag) (mg : Str → Option Value) (base : Heap) : Prop where
  law_take : CalQ P w K mg base 1 "_law_take" 2 fs_law_take
theorem ok_law_row {f : Addr} {fd : FuncData} (F : Fun K "_law_row" "_law_row" s_law_row f fd) (B : Bt mg) (C : Cs_law_row P w K mg base) : FnOk P w K mg base (L2.CX P w) 2 f fd ["purse", "long", "many"] (spQ K 3 fs_law_row) := by
  have nd := sc_law_row.nd
  refine fun_q (k := 1) F sc_law_row 3 rfl (fun cdv A outer s H E hr tk => (qss_one (qs_ret (qe_callTy call_tuple_of ref_tuple (by rfl) B.tuple (by decide +kernel) (qa_cons (qe_lc (f := .frz) (own := [("place", 3)]) rfl nd (qi_range1 (pi_range1 (by rfl) B.range (qa_cons (qe_var 1) qa_nil))) (blkOk_by (N := N_law_row) (sc := defScope s_law_row) (by decide +kernel)) (fun _ _ _ _ _ => (qgv_name (i := 3) (by decide) nd rfl (by first | exact Or.inl rfl | exact Or.inr rfl))) (fun _ _ _ _ _ => qts_nil) (fun _ _ _ _ _ => (qe_call C.law_take hr (by decide) takes0 (by rfl) (qa_cons (qe_var 0) (qa_cons (qe_var 2) qa_nil))))) qa_nil))))) (fun ds l Qd Ed hl h => ?_)
  obtain ⟨ns, k, m, rfl, rfl, hp, hk, h1, h2, q⟩ := h
  walk_at "q"
  refine ⟨by omega, by omega, ?_⟩
  refine lcI (fun i acc l => ∃ rs ns' : List Int, acc = rs.map .int ∧ l = [.lst (ns'.map .int)] ∧ (∀ r ∈ rs, 0 ≤ r ∧ r < m) ∧ Pur ns') (by rw [rangeD_len]; exact small1000 (by omega)) ⟨[], ns, rfl, rfl, by simp, hp⟩ ?_ ?_
  · rintro i x acc l hx ha ⟨rs, ns', rfl, rfl, hr, hp'⟩
    obtain ⟨hi, rfl⟩ := rangeD_get hx
    walk_at "q"
    refine ⟨ns', m, rfl, rfl, hp', h1, h2, fun r ns'' r0 r1 hp'' => ?_⟩
    simp only [List.length_map] at ha
    exact ⟨⟨by simp [ha], by omega⟩, rs ++ [r], ns'', by simp, rfl, by
      intro x hx
      rcases List.mem_append.mp hx with h | h
      · exact hr x h
      · simp at h; omega, hp''⟩
  · rintro acc l ha ⟨rs, ns', rfl, rfl, hr, hp'⟩
    walk_at "q"
    exact q rs ns' (by simpa [rangeD_len] using ha) hr hp'
theorem ok_law_sets {f : Addr} {fd : FuncData} (F : Fun K "_law_sets" "_law_sets" s_law_sets f fd) (B : Bt mg) : FnOk P w K mg base (L2.CX P w) 1 f fd ["many", "size"] (spQ K 2 fs_law_sets) := by
  have nd := sc_law_sets.nd
  refine fun_q (k := 0) F sc_law_sets 2 rfl (fun cdv A outer s H E hr tk => (qss_cons (qs_set (i := 2) nd rfl (by first | exact Or.inl rfl | exact Or.inr rfl) (qe_lst (f := .frz) (qa_cons (qe_tup qa_nil) qa_nil)))
    (qss_cons (qs_for (passes_of rfl) rfl (qi_range1 (pi_range1 (by rfl) B.range (qa_cons (qe_var 1) qa_nil))) (qg_name (i := 3) nd rfl (by first | exact Or.inl rfl | exact Or.inr rfl)) (qss_cons (qs_set (i := 4) nd rfl (by first | exact Or.inl rfl | exact Or.inr rfl) (qe_lst (f := .frz) qa_nil))
    (qss_cons (qs_for (passes_of rfl) rfl (qi_lst (qe_var 2)) (qg_name (i := 5) nd rfl (by first | exact Or.inl rfl | exact Or.inr rfl)) (qss_cons (qs_set (i := 6) nd rfl (by first | exact Or.inl rfl | exact Or.inr rfl) (qe_ifE (qt_cmp (op_gt) ref_B0 (qe_callB call_len_seq ref_len (by rfl) B.len (by decide +kernel) (qa_cons (qe_var 5) qa_nil)) qe_int (nomark _)) (qe_op op_add ref_I0 (qe_ix (qe_var 5) (qe_un un_neg ref_U qe_int) (fun _ _ => rfl)) qe_int) qe_int))
    (qss_one (qs_set (i := 4) nd rfl (by first | exact Or.inl rfl | exact Or.inr rfl) (qe_op op_cat (ref_cat (f := .frz)) (qe_var 4) (qe_lc (f := .frz) (own := [("number", 7)]) rfl nd (qi_range2 (pi_range2 (by rfl) B.range (qa_cons (qe_var 6) (qa_cons (qe_var 0) qa_nil)))) (blkOk_by (N := N_law_sets) (sc := defScope s_law_sets) (by decide +kernel)) (fun _ _ _ _ _ => (qgv_name (i := 7) (by decide) nd rfl (by first | exact Or.inl rfl | exact Or.inr rfl))) (fun _ _ _ _ _ => qts_nil) (fun _ _ _ _ _ => (qe_op op_catA ref_catT (qe_var 5) (qe_tup (qa_cons (qe_var 7) qa_nil))))))))))
    (qss_one (qs_set (i := 2) nd rfl (by first | exact Or.inl rfl | exact Or.inr rfl) (qe_var 4))))))
    (qss_one (qs_ret (qe_var 2)))))) (fun ds l Qd Ed hl h => ?_)
  obtain ⟨many, size, rfl, rfl, hm, hs, q⟩ := h
  walk_at "q"
  refine ⟨by omega, by omega, ?_⟩
  have hcl : ∀ k, (combos (List.range many) k).length ≤ 128 := fun k => by
    have : ∀ (xs : List Nat) (k : Nat), (combos xs k).length ≤ 2 ^ xs.length := fun xs => by
      induction xs with
      | nil => intro k; cases k <;> simp [combos]
      | cons x xs ih =>
        intro k
        cases k with
        | zero => rw [combos_zero]; simp; exact Nat.pow_pos (by omega)
        | succ k =>
          rw [combos, List.length_append, List.length_map, List.length_cons, Nat.pow_succ]
          have := ih k
          have := ih (k + 1)
          omega
    have h1 := this (List.range many) k
    have h2 : 2 ^ (List.range many).length ≤ 2 ^ 7 := Nat.pow_le_pow_right (by omega) (by simpa using hm)
    omega
  refine loopR (fun i σ l => ∃ x3 x4 x5 x6 x7, σ = [some (.d (.int many)), some (.d (.int size)), some (.d (.lst ((combos (List.range many) i).map fun S => .tup (natsD S)))), x3, x4, x5, x6, x7] ∧ l = []) ⟨_, _, _, _, _, by rw [combos_zero]; rfl, rfl⟩ ?_ ?_
  · rintro i σ l hi ⟨x3, x4, x5, x6, x7, rfl, rfl⟩
    walk_at "q"
    have hst := step_combos many 0 i
    rw [Nat.zero_add, ← List.range_eq_range'] at hst
    have hl0 : ∀ r ∈ combos (List.range many) i, r.length = i := fun r hr => combos_len _ _ _ hr
    have hlt0 : ∀ r ∈ combos (List.range many) i, ∀ x ∈ r, x < many := fun r hr x hx => List.mem_range.mp ((combos_sub _ _ _ hr).subset hx)
    have hc1 := hcl (i + 1)
    rw [← hst] at hc1 ⊢
    generalize combos (List.range many) i = L at *
    refine loopX (fun t σ l => ∃ x5 x6 x7, σ = [some (.d (.int many)), some (.d (.int size)), some (.d (.lst (L.map fun S => .tup (natsD S)))), some (.d (.int i)), some (.d (.lst (((L.take t).flatMap (extB 0 many)).map fun S => .tup (natsD S)))), x5, x6, x7] ∧ l = []) ⟨_, _, _, rfl, rfl⟩ ?_ ?_
    · rintro t x σ l hx ⟨x5, x6, x7, rfl, rfl⟩
      rw [List.getElem?_map] at hx
      obtain ⟨r, hr, rfl⟩ := Option.map_eq_some_iff.mp hx
      have hrm := List.mem_of_getElem? hr
      have hlow : ∃ low : Nat, low = (match r.getLast? with | none => 0 | some z => z + 1) ∧ low ≤ many := by
        refine ⟨_, rfl, ?_⟩
        cases hg : r.getLast? with
        | none => simp
        | some z =>
          have := hlt0 r hrm z (List.mem_of_getLast? hg)
          show z + 1 ≤ many
          omega
      obtain ⟨low, hlow, hlm⟩ := hlow
      have hext : extB 0 many r = (List.range' low (many - low)).map fun x => r ++ [x] := by rw [hlow]; rfl
      have hrl := hl0 r hrm
      walk_at "q"
      by_cases hr0 : r = []
      · rw [if_neg (by rw [hr0]; simp [natsD])]
        have hlow0 : low = 0 := by rw [hlow, hr0]; rfl
        refine ⟨by omega, ?_⟩
        refine lcI (fun u acc l => acc = ((List.range' low u).map fun x => r ++ [x]).map (fun S => D.tup (natsD S)) ∧ l = []) (by rw [rangeD_len]; exact Nat.lt_of_le_of_lt (by omega : _ ≤ 100) (by decide)) ⟨rfl, rfl⟩ ?_ ?_
        · rintro u x acc l hx ha ⟨rfl, rfl⟩
          obtain ⟨hu, rfl⟩ := rangeD_get hx
          walk_at "q"
          refine ⟨by rw [natsD_len]; exact Nat.le_trans (by omega : r.length + 1 ≤ 100) (by decide), ⟨by rw [List.length_range'], by omega⟩, ?_⟩
          rw [List.range'_concat, List.map_append, List.map_append]
          congr 1
          simp [natsD]
          omega
        · rintro acc l ha ⟨rfl, rfl⟩
          rw [rangeD_len]
          walk_at "q"
          have hx2 : ((L.take (t + 1)).flatMap (extB 0 many)) = (L.take t).flatMap (extB 0 many) ++ extB 0 many r := by
            rw [List.take_add_one, hr, List.flatMap_append]
            simp
          rw [hx2, hext, List.map_append, show ((many : Int) - 0).toNat = many - low by omega]
          refine ⟨?_, _, _, _, rfl⟩
          have h1 : ((L.take t).flatMap (extB 0 many)).length + (extB 0 many r).length ≤ 128 := by
            rw [← List.length_append, ← hx2]
            have h0 : L.flatMap (extB 0 many) = (L.take (t + 1)).flatMap (extB 0 many) ++ (L.drop (t + 1)).flatMap (extB 0 many) := by rw [← List.flatMap_append, List.take_append_drop]
            rw [h0, List.length_append] at hc1
            omega
          rw [hext] at h1
          simp only [List.length_map] at h1 ⊢
          exact Nat.le_trans h1 (by decide)
      · obtain ⟨r0, z, hrz⟩ : ∃ r0 z, r = r0 ++ [z] := ⟨_, _, (List.dropLast_concat_getLast hr0).symm⟩
        have hlowz : low = z + 1 := by rw [hlow, hrz]; simp
        rw [if_pos (by rw [natsD_len, hrz, List.length_append, List.length_singleton]; omega)]
        refine ⟨D.int z, by rw [hrz, natsD_app]; exact atI_last _ _, ?_⟩
        refine ⟨by omega, ?_⟩
        refine lcI (fun u acc l => acc = ((List.range' low u).map fun x => r ++ [x]).map (fun S => D.tup (natsD S)) ∧ l = []) (by rw [rangeD_len]; exact Nat.lt_of_le_of_lt (by omega : _ ≤ 100) (by decide)) ⟨rfl, rfl⟩ ?_ ?_
        · rintro u x acc l hx ha ⟨rfl, rfl⟩
          obtain ⟨hu, rfl⟩ := rangeD_get hx
          walk_at "q"
          refine ⟨by rw [natsD_len]; exact Nat.le_trans (by omega : r.length + 1 ≤ 100) (by decide), ⟨by rw [List.length_range'], by omega⟩, ?_⟩
          rw [List.range'_concat, List.map_append, List.map_append]
          congr 1
          simp [natsD]
          omega
        · rintro acc l ha ⟨rfl, rfl⟩
          rw [rangeD_len]
          walk_at "q"
          have hx2 : ((L.take (t + 1)).flatMap (extB 0 many)) = (L.take t).flatMap (extB 0 many) ++ extB 0 many r := by
            rw [List.take_add_one, hr, List.flatMap_append]
            simp
          rw [hx2, hext, List.map_append, show ((many : Int) - ((z : Int) + 1)).toNat = many - low by omega]
          refine ⟨?_, _, _, _, rfl⟩
          have h1 : ((L.take t).flatMap (extB 0 many)).length + (extB 0 many r).length ≤ 128 := by
            rw [← List.length_append, ← hx2]
            have h0 : L.flatMap (extB 0 many) = (L.take (t + 1)).flatMap (extB 0 many) ++ (L.drop (t + 1)).flatMap (extB 0 many) := by rw [← List.flatMap_append, List.take_append_drop]
            rw [h0, List.length_append] at hc1
            omega
          rw [hext] at h1
          simp only [List.length_map] at h1 ⊢
          exact Nat.le_trans h1 (by decide)
    · rintro σ l ⟨x5, x6, x7, rfl, rfl⟩
      rw [List.length_map, List.take_length]
      walk_at "q"
      exact ⟨_, _, _, _, _, rfl⟩
  · rintro σ l ⟨x3, x4, x5, x6, x7, rfl, rfl⟩
    walk_at "q"
    rw [show (size : Int).toNat = size by omega]
    exact q
theorem ok_law_parts_all {f : Addr} {fd : FuncData} (F : Fun K "_law_parts_all" "_law_parts_all" s_law_parts_all f fd) (B : Bt mg) : FnOk P w K mg base (L2.CX P w) 1 f fd ["asks", "numbers", "pairs"] (spQ K 3 fs_law_parts_all) := by
  have nd := sc_law_parts_all.nd
  refine fun_q (k := 0) F sc_law_parts_all 3 rfl (fun cdv A outer s H E hr tk => (qss_cons (qs_for (passes_of rfl) rfl (qi_lst (qe_var 2)) (qg_tup (n := 2) rfl (qgs_cons (qg_name (i := 3) nd rfl (by first | exact Or.inl rfl | exact Or.inr rfl)) (qgs_cons (qg_name (i := 4) nd rfl (by first | exact Or.inl rfl | exact Or.inr rfl)) qgs_nil))) (qss_one (qs_if (qt_not (qt_val (qe_callB (cr_any rfl) ref_any (by rfl) B.any (by decide +kernel) (qa_cons (qe_lc (f := .frz) (own := [("number", 5)]) rfl nd (qi_tup (pi_tup (qe_var 1))) (blkOk_by (N := N_law_parts_all) (sc := defScope s_law_parts_all) (by decide +kernel)) (fun _ _ _ _ _ => (qgv_name (i := 5) (by decide) nd rfl (by first | exact Or.inl rfl | exact Or.inr rfl))) (fun _ _ _ _ _ => qts_nil) (fun _ _ _ _ _ => (qe_cmp (op_neD hr.units) ref_ne (qe_ix (qe_ix (qe_ix (qe_var 0) (qe_var 5) (fun _ _ => rfl)) qe_int (fun _ _ => rfl)) (qe_var 3) (fun _ _ => rfl)) (qe_ix (qe_ix (qe_ix (qe_var 0) (qe_var 5) (fun _ _ => rfl)) qe_int (fun _ _ => rfl)) (qe_var 4) (fun _ _ => rfl)) (nomark _)))) qa_nil)))) (qss_one (qs_ret qe_bl)) qss_nil)))
    (qss_one (qs_ret qe_bl)))) (fun ds l Qd Ed hl h => ?_)
  obtain ⟨As, S, ps, many, rfl, rfl, hA, hS, hSl, hl, hp, q⟩ := h
  walk_at "q"
  refine loopX (fun i σ l => ∃ x3 x4 x5, σ = [some (.d (asksD As)), some (.d (.tup (natsD S))), some (.d (pairsD ps)), x3, x4, x5] ∧ l = [] ∧ hitsAll As ps S = hitsAll As (ps.drop i) S) ⟨_, _, _, rfl, rfl, by rw [List.drop_zero]⟩ ?_ ?_
  · rintro i x σ l hx ⟨x3, x4, x5, rfl, rfl, hh⟩
    rw [List.getElem?_map] at hx
    obtain ⟨p, hpi, rfl⟩ := Option.map_eq_some_iff.mp hx
    have hpm := hp p (List.mem_of_getElem? hpi)
    have hi := (List.getElem?_eq_some_iff.mp hpi).1
    have hdr : ps.drop i = p :: ps.drop (i + 1) := by
      rw [List.drop_eq_getElem_cons hi]
      congr 1
      rw [List.getElem?_eq_getElem hi] at hpi
      exact Option.some.inj hpi
    rw [hdr] at hh
    walk_at "q"
    refine lcI (fun j acc l => acc = (S.take j).map (fun n => D.bl (decide (valA As n p.1 ≠ valA As n p.2))) ∧ l = []) (by rw [natsD_len]; exact Nat.lt_of_le_of_lt (by omega : _ ≤ 100) (by decide)) ⟨rfl, rfl⟩ ?_ ?_
    · rintro j x acc l hx ha ⟨rfl, rfl⟩
      unfold natsD at hx
      rw [List.getElem?_map] at hx
      obtain ⟨n, hn, rfl⟩ := Option.map_eq_some_iff.mp hx
      have hnA := hS n (List.mem_of_getElem? hn)
      have hj := (List.getElem?_eq_some_iff.mp hn).1
      have hAn : As[n]? = some As[n] := List.getElem?_eq_getElem hnA
      have hln := hl As[n] (List.getElem_mem hnA)
      have hv : ∀ k, valA As n k = As[n].1.getD k 0 := fun k => by unfold valA; simp [List.getD, hnA]
      walk_at "q"
      refine ⟨_, atI_m (f := askD) rfl hAn, ?_⟩
      walk_at "q"
      refine ⟨_, atI_m (f := D.int) rfl (getD_at (i := p.1) (by omega)), _, atI_m (f := askD) rfl hAn, ?_⟩
      walk_at "q"
      refine ⟨_, atI_m (f := D.int) rfl (getD_at (i := p.2) (by omega)), by simp [dOk_int], ⟨by rw [List.length_take]; omega, by rw [natsD_len]; omega⟩, ?_⟩
      rw [List.take_add_one, hn, List.map_append, D.eqv_int, ← hv, ← hv]
      simp only [Option.toList_some, List.map_cons, List.map_nil, ne_eq, decide_not]
    · rintro acc l ha ⟨rfl, rfl⟩
      rw [natsD_len, List.take_length]
      walk_at "q"
      refine ⟨S.map (fun n => decide (valA As n p.1 ≠ valA As n p.2)), by rw [List.map_map]; rfl, ?_⟩
      have hany : (S.map (fun n => decide (valA As n p.1 ≠ valA As n p.2))).any id = S.any (fun n => decide (valA As n p.1 ≠ valA As n p.2)) := by rw [List.any_map]; rfl
      have hcons : hitsAll As (p :: ps.drop (i + 1)) S = (S.any (fun n => decide (valA As n p.1 ≠ valA As n p.2)) && hitsAll As (ps.drop (i + 1)) S) := rfl
      rw [hcons] at hh
      rw [hany]
      cases hb : S.any (fun n => decide (valA As n p.1 ≠ valA As n p.2)) with
      | false =>
        rw [hb, Bool.false_and] at hh
        rw [if_pos rfl]
        rw [hh] at q
        exact q
      | true =>
        rw [hb, Bool.true_and] at hh
        rw [if_neg (by decide)]
        exact ⟨_, _, _, rfl, hh⟩
  · rintro σ l ⟨x3, x4, x5, rfl, rfl, hh⟩
    walk_at "q"
    rw [List.length_map, List.drop_length] at hh
    rw [hh] at q
    exact q
structure Cs_law_fewest (P : Program) (w : World) (K : PySem.W.Frag) (mg : Str → Option Value) (base : Heap) : Prop where
  law_sets : CalQ P w K mg base 1 "_law_sets" 2 fs_law_sets
  law_parts_all : CalQ P w K mg base 1 "_law_parts_all" 3 fs_law_parts_all
theorem ok_law_fewest {f : Addr} {fd : FuncData} (F : Fun K "_law_fewest" "_law_fewest" s_law_fewest f fd) (B : Bt mg) (C : Cs_law_fewest P w K mg base) : FnOk P w K mg base (L2.CX P w) 2 f fd ["asks", "pairs"] (spQ K 2 fs_law_fewest) := by
  have nd := sc_law_fewest.nd
  refine fun_q (k := 1) F sc_law_fewest 2 rfl (fun cdv A outer s H E hr tk => (qss_cons (qs_for (passes_of rfl) rfl (qi_range1 (pi_range1 (by rfl) B.range (qa_cons (qe_op op_add ref_I0 (qe_callB call_len_seq ref_len (by rfl) B.len (by decide +kernel) (qa_cons (qe_var 0) qa_nil)) qe_int) qa_nil))) (qg_name (i := 2) nd rfl (by first | exact Or.inl rfl | exact Or.inr rfl)) (qss_one (qs_for (passes_of rfl) rfl (qi_lst (qe_call C.law_sets hr (by decide) tk (by rfl) (qa_cons (qe_callB call_len_seq ref_len (by rfl) B.len (by decide +kernel) (qa_cons (qe_var 0) qa_nil)) (qa_cons (qe_var 2) qa_nil)))) (qg_name (i := 3) nd rfl (by first | exact Or.inl rfl | exact Or.inr rfl)) (qss_one (qs_if (qt_val (qe_call C.law_parts_all hr (by decide) tk (by rfl) (qa_cons (qe_var 0) (qa_cons (qe_var 3) (qa_cons (qe_var 1) qa_nil))))) (qss_one (qs_ret (qe_var 3))) qss_nil)))))
    (qss_one (qs_ret qe_non)))) (fun ds l Qd Ed hl h => ?_)
  obtain ⟨As, ps, many, rfl, rfl, hA, hl, hp, q⟩ := h
  walk_at "q"
  refine ⟨by omega, by omega, ?_⟩
  refine loopR (fun i σ l => ∃ x2 x3, σ = [some (.d (asksD As)), some (.d (pairsD ps)), x2, x3] ∧ l = [] ∧ ∀ j, j < i → (combos (List.range As.length) j).find? (hitsAll As ps) = none) ⟨_, _, rfl, rfl, by omega⟩ ?_ ?_
  · rintro i σ l hi ⟨x2, x3, rfl, rfl, hno⟩
    walk_at "q"
    refine ⟨As.length, i, rfl, rfl, by omega, by omega, ?_⟩
    walk_at "q"
    refine loopX (fun t σ l => ∃ x3, σ = [some (.d (asksD As)), some (.d (pairsD ps)), some (.d (.int i)), x3] ∧ l = [] ∧ (combos (List.range As.length) i).find? (hitsAll As ps) = ((combos (List.range As.length) i).drop t).find? (hitsAll As ps)) ⟨_, rfl, rfl, by rw [List.drop_zero]⟩ ?_ ?_
    · rintro t x σ l hx ⟨x3, rfl, rfl, hh⟩
      rw [List.getElem?_map] at hx
      obtain ⟨S, hS, rfl⟩ := Option.map_eq_some_iff.mp hx
      have hSm := List.mem_of_getElem? hS
      have hsub := combos_sub _ _ _ hSm
      have hi2 := (List.getElem?_eq_some_iff.mp hS).1
      have hdr : (combos (List.range As.length) i).drop t = S :: (combos (List.range As.length) i).drop (t + 1) := by
        rw [List.drop_eq_getElem_cons hi2]
        congr 1
        rw [List.getElem?_eq_getElem hi2] at hS
        exact Option.some.inj hS
      rw [hdr, List.find?_cons] at hh
      walk_at "q"
      refine ⟨As, S, ps, many, rfl, rfl, hA, fun n hn => List.mem_range.mp (hsub.subset hn), by have := hsub.length_le; simp at this; omega, hl, hp, ?_⟩
      cases hb : hitsAll As ps S with
      | true =>
        rw [hb] at hh
        walk_at "q"
        rw [best_some hh hno] at q
        exact q
      | false =>
        rw [hb] at hh
        walk_at "q"
        exact ⟨_, rfl, hh⟩
    · rintro σ l ⟨x3, rfl, rfl, hh⟩
      rw [List.length_map, List.drop_length] at hh
      refine ⟨_, _, rfl, rfl, fun j hj => ?_⟩
      by_cases ej : j = i
      · rw [ej]; exact hh
      · exact hno j (by omega)
  · rintro σ l ⟨x2, x3, rfl, rfl, hno⟩
    walk_at "q"
    rw [best_none fun k => ?_] at q
    · exact q
    · by_cases hk : k < ((As.length : Int) + 1).toNat
      · exact hno k hk
      · rw [combos_big _ k (by simp; omega)]
        rfl
structure Cs_law_refused (P : Program) (w : World) (K : PySem.W.Frag) (mg : Str → Option Value) (base : Heap) : Prop where
  least_tests : CalQ P w K mg base 3 "least_tests" 2 fs_least_tests
  lesson : CalQ P w K mg base 3 "lesson" 3 fs_lesson
theorem ok_law_refused {f : Addr} {fd : FuncData} (F : Fun K "_law_refused" "_law_refused" s_law_refused f fd) (B : Bt mg) (C : Cs_law_refused P w K mg base) (Y : Ys K mg) : FnOk P w K mg base (L2.CX P w) 4 f fd ["which", "asks"] (spQ K 2 fs_law_refused) := by
  have nd := sc_law_refused.nd
  refine fun_q (k := 3) F sc_law_refused 2 rfl (fun cdv A outer s H E hr tk => (qss_cons (qs_try_as (i := 2) (m := tab_ColumnError) rfl rfl nd rfl rfl ⟨by rfl, by decide, .inl Y.cm_ColumnError⟩ tk Y.ex_ColumnError (fun W1 pn xe tk po => (qss_one (qs_if (qt_cmp (op_eqD hr.units) ref_eq (qe_var 0) qe_int (nomark _)) (qss_one (qs_expr (qe_call C.least_tests hr (by decide) tk (by rfl) (qa_cons (qe_var 1) (qa_cons qe_int qa_nil))))) (qss_one (qs_expr (qe_call C.lesson hr (by decide) tk (by rfl) (qa_cons (qe_var 1) (qa_cons qe_int (qa_cons (qe_op op_sub ref_I0 (qe_var 0) qe_int) qa_nil))))))))) (fun a oe cls d pn hz hv => (qss_one (qs_ret (qe_and (qe_isX (m := isa_TooMany) Y.is_TooMany hz hv (qe_var 2) (pe_glob (v := .ref (clsA K "TooMany")) (by rfl) Y.cm_TooMany rfl) (fun _ h => h) (by rfl) B.isinstance) (qe_one (qe_cmp (op_eqD hr.units) ref_eq (qe_xf Y.xf_limit hz hv (qe_var 2)) qe_int (nomark _))))))))
    (qss_one (qs_ret qe_bl)))) (fun ds l Qd Ed hl h => ?_)
  obtain ⟨As, w, rfl, rfl, hA, q⟩ := h
  walk_at "q"
  split
  · refine ⟨As, 9, rfl, rfl, hA, fun h => by omega, fun _ => ?_⟩
    walk_at "q"
    refine .inl ⟨by decide, fun a cls d => ?_⟩
    walk_at "q"
    exact ⟨_, _, _, rfl, by simp, by rw [if_pos (by decide)]; exact ⟨_, _, _, _, rfl, by simp, rfl, by simp [dOk_int], by rw [D.eqv_int]; exact q⟩⟩
  · refine ⟨As, 9, _, rfl, rfl, hA, fun h => by omega, fun _ => ?_⟩
    walk_at "q"
    refine .inl ⟨by decide, fun a cls d => ?_⟩
    walk_at "q"
    exact ⟨_, _, _, rfl, by simp, by rw [if_pos (by decide)]; exact ⟨_, _, _, _, rfl, by simp, rfl, by simp [dOk_int], by rw [D.eqv_int]; exact q⟩⟩
structure Cs_law (P : Program) (w : World) (K : PySem.W.Frag) (mg : Str → Option Value) (base : Heap) : Prop where
  least_tests : CalQ P w K mg base 3 "least_tests" 2 fs_least_tests
  lesson : CalQ P w K mg base 3 "lesson" 3 fs_lesson
  hardest : CalQ P w K mg base 4 "hardest" 2 fs_hardest
  law_purse : CalQ P w K mg base 2 "_law_purse" 1 fs_law_purse
  law_take : CalQ P w K mg base 1 "_law_take" 2 fs_law_take
  law_row : CalQ P w K mg base 2 "_law_row" 3 fs_law_row
  law_fewest : CalQ P w K mg base 2 "_law_fewest" 2 fs_law_fewest
  law_refused : CalQ P w K mg base 4 "_law_refused" 2 fs_law_refused
theorem ok_law {f : Addr} {fd : FuncData} (F : Fun K "law" "law" s_law f fd) (B : Bt mg) (C : Cs_law P w K mg base) : FnOk P w K mg base (L2.CX P w) 5 f fd ["script"] (spQ K 1 fs_law) := by
  have nd := sc_law.nd
  refine fun_q (k := 4) F sc_law 1 rfl (fun cdv A outer s H E hr tk => (qss_cons (qs_set (i := 1) nd rfl (by first | exact Or.inl rfl | exact Or.inr rfl) (qe_call C.law_purse hr (by decide) tk (by rfl) (qa_cons (qe_var 0) qa_nil)))
    (qss_cons (qs_set (i := 2) nd rfl (by first | exact Or.inl rfl | exact Or.inr rfl) (qe_op op_add ref_I0 qe_int (qe_call C.law_take hr (by decide) tk (by rfl) (qa_cons (qe_var 1) (qa_cons qe_int qa_nil)))))
    (qss_cons (qs_set (i := 3) nd rfl (by first | exact Or.inl rfl | exact Or.inr rfl) (qe_lst (f := .cell) qa_nil))
    (qss_cons (qs_for (passes_of rfl) rfl (qi_range1 (pi_range1 (by rfl) B.range (qa_cons (qe_call C.law_take hr (by decide) tk (by rfl) (qa_cons (qe_var 1) (qa_cons qe_int qa_nil))) qa_nil))) (qg_name (i := 4) nd rfl (by first | exact Or.inl rfl | exact Or.inr rfl)) (qss_one (qs_expr (qe_bm PySem.F.slot_list_append PySem.F.type_list_append mt_append ref_append (qe_var 3) (qa_cons (qe_tup (qa_cons (qe_call C.law_row hr (by decide) tk (by rfl) (qa_cons (qe_var 1) (qa_cons (qe_var 2) (qa_cons (qe_op op_add ref_I0 qe_int (qe_call C.law_take hr (by decide) tk (by rfl) (qa_cons (qe_var 1) (qa_cons qe_int qa_nil)))) qa_nil)))) (qa_cons (qe_tup (qa_cons (qe_var 4) qa_nil)) qa_nil))) qa_nil)))))
    (qss_cons (qs_set (i := 3) nd rfl (by first | exact Or.inl rfl | exact Or.inr rfl) (qe_callTy call_tuple_of ref_tuple (by rfl) B.tuple (by decide +kernel) (qa_cons (qe_var 3) qa_nil)))
    (qss_cons (qs_set (i := 5) nd rfl (by first | exact Or.inl rfl | exact Or.inr rfl) (qe_lst (f := .frz) qa_nil))
    (qss_cons (qs_for (passes_of rfl) rfl (qi_range1 (pi_range1 (by rfl) B.range (qa_cons (qe_var 2) qa_nil))) (qg_name (i := 6) nd rfl (by first | exact Or.inl rfl | exact Or.inr rfl)) (qss_one (qs_set (i := 5) nd rfl (by first | exact Or.inl rfl | exact Or.inr rfl) (qe_op op_cat (ref_cat (f := .frz)) (qe_var 5) (qe_lc (f := .frz) (own := [("first", 7)]) rfl nd (qi_range1 (pi_range1 (by rfl) B.range (qa_cons (qe_var 6) qa_nil))) (blkOk_by (N := N_law) (sc := defScope s_law) (by decide +kernel)) (fun _ _ _ _ _ => (qgv_name (i := 7) (by decide) nd rfl (by first | exact Or.inl rfl | exact Or.inr rfl))) (fun _ _ _ _ _ => qts_nil) (fun _ _ _ _ _ => (qe_tup (qa_cons (qe_var 7) (qa_cons (qe_var 6) qa_nil)))))))))
    (qss_cons (qs_if (qt_cmp (op_neD hr.units) ref_ne (qe_call C.least_tests hr (by decide) tk (by rfl) (qa_cons (qe_var 3) (qa_cons (qe_var 2) qa_nil))) (qe_call C.law_fewest hr (by decide) tk (by rfl) (qa_cons (qe_var 3) (qa_cons (qe_var 5) qa_nil))) (nomark _)) (qss_one (qs_ret qe_bl)) qss_nil)
    (qss_cons (qs_set (i := 8) nd rfl (by first | exact Or.inl rfl | exact Or.inr rfl) (qe_lst (f := .cell) qa_nil))
    (qss_cons (qs_for (passes_of rfl) rfl (qi_range1 (pi_range1 (by rfl) B.range (qa_cons (qe_var 2) qa_nil))) (qg_name (i := 9) nd rfl (by first | exact Or.inl rfl | exact Or.inr rfl)) (qss_cons (qs_set (i := 10) nd rfl (by first | exact Or.inl rfl | exact Or.inr rfl) (qe_call C.law_fewest hr (by decide) tk (by rfl) (qa_cons (qe_var 3) (qa_cons (qe_lc (f := .frz) (own := [("other", 11)]) rfl nd (qi_range1 (pi_range1 (by rfl) B.range (qa_cons (qe_var 2) qa_nil))) (blkOk_by (N := N_law) (sc := defScope s_law) (by decide +kernel)) (fun _ _ _ _ _ => (qgv_name (i := 11) (by decide) nd rfl (by first | exact Or.inl rfl | exact Or.inr rfl))) (fun _ _ _ _ _ => (qts_one (qt_cmp (op_neD hr.units) ref_ne (qe_var 11) (qe_var 9) (nomark _)))) (fun _ _ _ _ _ => (qe_tup (qa_cons (qe_var 9) (qa_cons (qe_var 11) qa_nil))))) qa_nil))))
    (qss_cons (qs_if (qt_cmp (op_neD hr.units) ref_ne (qe_call C.lesson hr (by decide) tk (by rfl) (qa_cons (qe_var 3) (qa_cons (qe_var 2) (qa_cons (qe_var 9) qa_nil)))) (qe_var 10) (nomark _)) (qss_one (qs_ret qe_bl)) qss_nil)
    (qss_one (qs_expr (qe_bm PySem.F.slot_list_append PySem.F.type_list_append mt_append ref_append (qe_var 8) (qa_cons (qe_var 10) qa_nil)))))))
    (qss_cons (qs_set (i := 10) nd rfl (by first | exact Or.inl rfl | exact Or.inr rfl) qe_non)
    (qss_cons (qs_if (qt_cmp (op_notInD hr.u65) ref_notInD qe_non (qe_var 8) (by rfl)) (qss_cons (qs_set (i := 12) nd rfl (by first | exact Or.inl rfl | exact Or.inr rfl) (qe_callB (cr_max rfl) ref_max (by rfl) B.max (by decide +kernel) (qa_cons (qe_lc (f := .frz) (own := [("row", 13)]) rfl nd (qi_lst (qe_var 8)) (blkOk_by (N := N_law) (sc := defScope s_law) (by decide +kernel)) (fun _ _ _ _ _ => (qgv_name (i := 13) (by decide) nd rfl (by first | exact Or.inl rfl | exact Or.inr rfl))) (fun _ _ _ _ _ => qts_nil) (fun _ _ _ _ _ => (qe_callB call_len_seq ref_len (by rfl) B.len (by decide +kernel) (qa_cons (qe_var 13) qa_nil)))) qa_nil)))
    (qss_one (qs_set (i := 10) nd rfl (by first | exact Or.inl rfl | exact Or.inr rfl) (qe_tup (qa_cons (qe_bm PySem.F.slot_list_index PySem.F.type_list_index (mt_indexD hr.u65) ref_index (qe_lc (f := .frz) (own := [("row", 13)]) rfl nd (qi_lst (qe_var 8)) (blkOk_by (N := N_law) (sc := defScope s_law) (by decide +kernel)) (fun _ _ _ _ _ => (qgv_name (i := 13) (by decide) nd rfl (by first | exact Or.inl rfl | exact Or.inr rfl))) (fun _ _ _ _ _ => qts_nil) (fun _ _ _ _ _ => (qe_callB call_len_seq ref_len (by rfl) B.len (by decide +kernel) (qa_cons (qe_var 13) qa_nil)))) (qa_cons (qe_var 12) qa_nil)) (qa_cons (qe_var 12) qa_nil)))))) qss_nil)
    (qss_cons (qs_if (qt_cmp (op_neD hr.units) ref_ne (qe_call C.hardest hr (by decide) tk (by rfl) (qa_cons (qe_var 3) (qa_cons (qe_var 2) qa_nil))) (qe_var 10) (nomark _)) (qss_one (qs_ret qe_bl)) qss_nil)
    (qss_cons (qs_set (i := 14) nd rfl (by first | exact Or.inl rfl | exact Or.inr rfl) (qe_callTy call_tuple_of ref_tuple (by rfl) B.tuple (by decide +kernel) (qa_cons (qe_lc (f := .frz) (own := [("number", 4)]) rfl nd (qi_range1 (pi_range1 (by rfl) B.range (qa_cons qe_int qa_nil))) (blkOk_by (N := N_law) (sc := defScope s_law) (by decide +kernel)) (fun _ _ _ _ _ => (qgv_name (i := 4) (by decide) nd rfl (by first | exact Or.inl rfl | exact Or.inr rfl))) (fun _ _ _ _ _ => qts_nil) (fun _ _ _ _ _ => (qe_tup (qa_cons (qe_call C.law_row hr (by decide) takes0 (by rfl) (qa_cons (qe_var 1) (qa_cons qe_int (qa_cons qe_int qa_nil)))) (qa_cons (qe_tup (qa_cons (qe_var 4) qa_nil)) qa_nil))))) qa_nil)))
    (qss_one (qs_ret (qe_call C.law_refused hr (by decide) tk (by rfl) (qa_cons (qe_call C.law_take hr (by decide) tk (by rfl) (qa_cons (qe_var 1) (qa_cons qe_int qa_nil))) (qa_cons (qe_var 14) qa_nil)))))))))))))))))))) (fun ds l Qd Ed hl h => ?_)
  obtain ⟨ns, rfl, rfl, hn, q⟩ := h
  walk_at "q"
  refine ⟨ns, rfl, rfl, hn, fun ns1 l1 p1 => ?_⟩
  have hp1 : Pur ns1 := ⟨l1, p1⟩
  walk_at "q"
  refine ⟨ns1, 6, rfl, rfl, hp1, by omega, by omega, fun r ns2 r0 r1 hp2 => ?_⟩
  obtain ⟨many, hmany, hm⟩ : ∃ many : Nat, (1 : Int) + r = (many : Int) ∧ 1 ≤ many ∧ many ≤ 6 := ⟨(1 + r).toNat, by omega, by omega, by omega⟩
  walk_at "q"
  rw [hmany]
  refine ⟨ns2, 8, rfl, rfl, hp2, by omega, by omega, fun k ns3 k0 k1 hp3 => ?_⟩
  walk_at "q"
  refine ⟨by omega, by omega, ?_⟩
  refine loopR (fun i σ l => ∃ (As : AskL) (ns' : List Int) (x4 : Option QL.P), σ = [some (.d (.scr (ns.map .int))), some (.loc 0), some (.d (.int many)), some (.loc 1), x4, none, none, none, none, none, none, none, none, none, none] ∧ l = [.lst (ns'.map .int), .lst (As.map askD)] ∧ As.length = i ∧ (∀ a ∈ As, a.1.length = many) ∧ Pur ns') ⟨[], ns3, _, rfl, rfl, rfl, by simp, hp3⟩ ?_ ?_
  · rintro i σ l hi ⟨As, ns', x4, rfl, rfl, hAl, hAm, hp'⟩
    walk_at "q"
    refine ⟨ns', 2, rfl, rfl, hp', by omega, by omega, fun u ns4 u0 u1 hp4 => ?_⟩
    walk_at "q"
    refine ⟨ns4, many, _, rfl, rfl, hp4, by omega, by omega, by omega, fun rs ns5 hrs _ hp5 => ?_⟩
    walk_at "q"
    refine ⟨Nat.lt_of_le_of_lt (by omega : As.length ≤ 100) (by decide), As ++ [(rs, .tup [.int i])], ns5, _, rfl, by simp, by simp [hAl], fun a ha => ?_, hp5⟩
    rcases List.mem_append.mp ha with h | h
    · exact hAm a h
    · simp at h; rw [h]; exact hrs
  rintro σ l ⟨As, ns4, x4, rfl, rfl, hAl, hAm, hp4⟩
  have hA7 : As.length ≤ 7 := by omega
  walk_at "q"
  refine ⟨by omega, by omega, ?_⟩
  refine loopR (fun i σ l => ∃ (x6 x7 : Option QL.P), σ = [some (.d (.scr (ns.map .int))), some (.loc 0), some (.d (.int many)), some (.d (asksD As)), x4, some (.d (pairsD ((List.range i).flatMap fun s => (List.range s).map fun f => (f, s)))), x6, x7, none, none, none, none, none, none, none] ∧ l = [.lst (ns4.map .int), .lst (As.map askD)]) ⟨_, _, rfl, rfl⟩ ?_ ?_
  · rintro i σ l hi ⟨x6, x7, rfl, rfl⟩
    walk_at "q"
    refine ⟨by omega, by omega, ?_⟩
    have hevl : ((List.range i).flatMap fun s => (List.range s).map fun f => (f, s)).length ≤ 36 := by
      rcases (by omega : i = 0 ∨ i = 1 ∨ i = 2 ∨ i = 3 ∨ i = 4 ∨ i = 5) with rfl | rfl | rfl | rfl | rfl | rfl <;> decide
    refine lcI (fun t acc l => acc = ((List.range t).map fun f => (f, i)).map (fun p => D.tup [.int (p.1 : Nat), .int (p.2 : Nat)]) ∧ l = [.lst (ns4.map .int), .lst (As.map askD)]) (by rw [rangeD_len]; exact Nat.lt_of_le_of_lt (by omega : _ ≤ 100) (by decide)) ⟨rfl, rfl⟩ ?_ ?_
    · rintro t x acc l hx ha ⟨rfl, rfl⟩
      obtain ⟨ht, rfl⟩ := rangeD_get hx
      walk_at "q"
      refine ⟨⟨by simp, by omega⟩, ?_⟩
      rw [List.range_succ, List.map_append, List.map_append]
      simp
    · rintro acc l ha ⟨rfl, rfl⟩
      rw [rangeD_len, show ((i : Int)).toNat = i by omega]
      walk_at "q"
      refine ⟨by simp only [List.length_map, List.length_range]; exact Nat.le_trans (Nat.add_le_add hevl (by omega : i ≤ 6)) (by decide), ?_⟩
      rw [List.range_succ, List.flatMap_append]
      exact ⟨some (.d (.int i)), x7, by simp [pairsD]⟩
  rintro σ l ⟨x6, x7, rfl, rfl⟩
  rw [show ((many : Int)).toNat = many by omega]
  rw [show ((List.range many).flatMap fun s => (List.range s).map fun f => (f, s)) = ev many from rfl]
  have hev : ∀ p ∈ ev many, p.1 < many ∧ p.2 < many := fun p hp => by have := (mem_ev many p).mp hp; omega
  walk_at "q"
  refine ⟨As, many, rfl, rfl, hA7, fun _ => ⟨hm, hAm, ?_⟩, fun h => by omega⟩
  rw [cov_hits hm hAm]
  walk_at "q"
  refine ⟨As, ev many, many, rfl, rfl, hA7, hAm, hev, ?_⟩
  walk_at "q"
  rw [D.eqv_self (noB_opt _)]
  refine ⟨dOk_opt _, dOk_opt _, ?_⟩
  simp only [Bool.true_eq_false, if_false]
  refine ⟨by omega, by omega, ?_⟩
  have hlf : ∀ t, t < many → lesF As many t = best (List.range As.length) (hitsAll As (lp many t)) := fun t ht => by unfold lesF; rw [cov_lp hm.2 ht hAm]
  refine loopR (fun i σ l => ∃ (x9 x10 x11 : Option QL.P), σ = [some (.d (.scr (ns.map .int))), some (.loc 0), some (.d (.int many)), some (.d (asksD As)), x4, some (.d (pairsD (ev many))), x6, x7, some (.loc 2), x9, x10, x11, none, none, none] ∧ l = [.lst (ns4.map .int), .lst (As.map askD), .lst ((List.range i).map fun t => optD (lesF As many t))]) ⟨_, _, _, rfl, rfl⟩ ?_ ?_
  · rintro i σ l hi ⟨x9, x10, x11, rfl, rfl⟩
    have hi : i < many := by omega
    walk_at "q"
    refine ⟨by omega, by omega, ?_⟩
    refine lcF (fun j acc l => acc.length ≤ j ∧ j ≤ many ∧ l = [.lst (ns4.map .int), .lst (As.map askD), .lst ((List.range i).map fun t => optD (lesF As many t))] ∧ acc = (((List.range j).filter fun o => decide (o ≠ i)).map fun o => (i, o)).map (fun p : Nat × Nat => D.tup [.int (p.1 : Nat), .int (p.2 : Nat)])) (by rw [rangeD_len]; exact Nat.lt_of_le_of_lt (by omega : _ ≤ 100) (by decide)) ⟨by simp, by omega, rfl, rfl⟩ (fun j acc l h => ⟨h.1, by rw [rangeD_len]; have := h.2.1; omega⟩) ?_ ?_
    · rintro j x acc l hx ⟨ha, hj, rfl, rfl⟩
      obtain ⟨hj2, rfl⟩ := rangeD_get hx
      simp only [List.length_map] at ha
      walk_at "q"
      rw [List.range_succ, List.filter_append, List.map_append, List.map_append]
      by_cases ej : j = i
      · rw [if_neg (by omega)]
        refine ⟨by omega, by omega, ?_⟩
        simp [ej]
      · rw [if_pos (by omega)]
        refine ⟨by omega, by omega, ?_⟩
        simp [ej]
    · rintro acc l ⟨ha, hj, rfl, rfl⟩
      rw [rangeD_len, show ((many : Int)).toNat = many by omega]
      rw [show (((List.range many).filter fun o => decide (o ≠ i)).map fun o => (i, o)) = lp many i from rfl]
      walk_at "q"
      have hlp : ∀ p ∈ lp many i, p.1 < many ∧ p.2 < many := fun p hp => by
        unfold lp at hp
        simp only [List.mem_map, List.mem_filter, List.mem_range] at hp
        obtain ⟨o, ⟨h1, _⟩, rfl⟩ := hp
        exact ⟨hi, h1⟩
      refine ⟨As, lp many i, many, rfl, rfl, hA7, hAm, hlp, ?_⟩
      rw [← hlf i hi]
      walk_at "q"
      refine ⟨As, many, i, rfl, rfl, hA7, fun _ => ⟨i, rfl, hi, hm.2, hAm, ?_⟩, fun h => by omega⟩
      rw [show best (List.range As.length) (cov (As.map fun a => pfF a.1 i) (2 ^ many - 1 - 2 ^ i)) = lesF As many i from rfl]
      walk_at "q"
      rw [D.eqv_self (noB_opt _)]
      refine ⟨dOk_opt _, dOk_opt _, ?_⟩
      simp only [Bool.true_eq_false, if_false]
      exact ⟨by rw [List.length_range]; exact Nat.lt_of_le_of_lt (by omega : i ≤ 100) (by decide), _, _, _, rfl, by rw [List.range_succ, List.map_append]; rfl⟩
  rintro σ l ⟨x9, x10, x11, rfl, rfl⟩
  rw [show ((many : Int)).toNat = many by omega]
  have hlsD : (List.range many).map (fun t => optD (lesF As many t)) = ((List.range many).map (lesF As many)).map optD := by rw [List.map_map]; rfl
  rw [hlsD]
  generalize hls : (List.range many).map (lesF As many) = ls at *
  have hlsl : ls.length = many := by rw [← hls]; simp
  have hany : (ls.map optD).any (fun z => D.eqv z .non) = decide (none ∈ ls) := by
    rw [List.any_map, Bool.eq_iff_iff, List.any_eq_true, decide_eq_true_eq]
    constructor
    · rintro ⟨o, ho, h⟩
      cases o with
      | none => exact ho
      | some S => simp [optD, D.eqv, D.py, PyData.eqv] at h
    · intro h
      exact ⟨none, h, by simp [optD]⟩
  have hdk : dOk 60 (D.lst (ls.map optD)) := by
    rw [dOk_lst]
    intro x hx
    obtain ⟨o, _, rfl⟩ := List.mem_map.mp hx
    exact dOk_opt o

  walk_at "q"
  rw [hany]
  refine ⟨hdk, ?_⟩
  by_cases hno : none ∈ ls
  · rw [decide_eq_true hno]
    walk_at "q"
    refine ⟨As, many, rfl, rfl, hA7, hm.2, hAm, ?_⟩
    rw [hls, hard_none ls 0 none hno]
    simp only [hardD]
    walk_at "q"
    rw [D.eqv_non, if_neg (by decide)]
    refine lcI (fun i acc l => ∃ (Ws : AskL) (ns' : List Int), acc = Ws.map askD ∧ l = [.lst (ns'.map .int), .lst (As.map askD), .lst (ls.map optD)] ∧ Ws.length = i ∧ Pur ns') (by rw [rangeD_len]; decide) ⟨[], ns4, rfl, rfl, rfl, hp4⟩ ?_ ?_
    · rintro i x acc l hx ha ⟨Ws, ns', rfl, rfl, hWl, hp'⟩
      obtain ⟨hi2, rfl⟩ := rangeD_get hx
      walk_at "q"
      refine ⟨ns', 9, 2, rfl, rfl, hp', by omega, by omega, by omega, fun rs ns5 _ _ hp5 => ?_⟩
      walk_at "q"
      refine ⟨⟨by rw [hWl], by omega⟩, Ws ++ [(rs, .tup [.int i])], ns5, by simp, rfl, by simp [hWl], hp5⟩
    · rintro acc l ha ⟨Ws, ns', rfl, rfl, hWl, hp'⟩
      walk_at "q"
      refine ⟨ns', 10, rfl, rfl, hp', by omega, by omega, fun w ns5 w0 w1 hp5 => ?_⟩
      obtain ⟨w, rfl⟩ := Int.eq_ofNat_of_zero_le w0
      walk_at "q"
      refine ⟨Ws, w, rfl, rfl, by rw [hWl, rangeD_len]; omega, ?_⟩
      walk_at "q"
      exact q
  · rw [decide_eq_false hno]
    obtain ⟨Ls, rfl⟩ : ∃ Ls : List (List Nat), ls = Ls.map some := by
      clear hls hlsD hlsl hany hdk
      induction ls with
      | nil => exact ⟨[], rfl⟩
      | cons x r ih =>
        obtain ⟨Ls, h⟩ := ih (fun h => hno (by simp [h]))
        cases x with
        | none => exact absurd (by simp) hno
        | some S => exact ⟨S :: Ls, by rw [h]; rfl⟩
    walk_at "q"
    simp only [List.length_map] at hlsl
    have hsz : (List.map optD (List.map some Ls)).length < sizeLine := by simp only [List.length_map]; exact Nat.lt_of_le_of_lt (by omega : Ls.length ≤ 100) (by decide)
    have turn : ∀ (j : Nat) (x : QL.D), (List.map optD (List.map some Ls))[j]? = some x → ∃ S, Ls[j]? = some S ∧ x = D.tup (natsD S) := fun j x hx => by
      rw [List.getElem?_map, List.getElem?_map] at hx
      cases hL : Ls[j]? with
      | none => rw [hL] at hx; cases hx
      | some S => rw [hL] at hx; exact ⟨S, rfl, (Option.some.inj hx).symm⟩
    refine lcC (fun j acc l => acc = ((Ls.take j).map fun S => (S.length : Int)).map D.int ∧ l = [.lst (ns4.map .int), .lst (As.map askD), .lst (List.map optD (List.map some Ls))]) hsz ⟨rfl, rfl⟩ (fun j acc l h => by rw [h.2]; rfl) ?_ ?_
    · rintro j x acc l hx ha ⟨rfl, rfl⟩
      obtain ⟨S, hS, rfl⟩ := turn j x hx
      have hj := (List.getElem?_eq_some_iff.mp hS).1
      walk_at "q"
      rw [natsD_len, List.take_add_one, hS, List.map_append, List.map_append]
      refine ⟨⟨by rw [List.length_take]; omega, by omega⟩, ?_⟩
      rfl
    · rintro acc l ha ⟨rfl, rfl⟩
      rw [show (List.map optD (List.map some Ls)).length = Ls.length by simp, List.take_length]
      walk_at "q"
      refine ⟨Ls.map fun S => (S.length : Int), rfl, by rw [List.length_map]; omega, fun mx hm1 hm2 => ?_⟩
      refine lcC (fun j acc l => acc = ((Ls.take j).map fun S => (S.length : Int)).map D.int ∧ l = [.lst (ns4.map .int), .lst (As.map askD), .lst (List.map optD (List.map some Ls))]) hsz ⟨rfl, rfl⟩ (fun j acc l h => by rw [h.2]; rfl) ?_ ?_
      · rintro j x acc l hx ha ⟨rfl, rfl⟩
        obtain ⟨S, hS, rfl⟩ := turn j x hx
        have hj := (List.getElem?_eq_some_iff.mp hS).1
        walk_at "q"
        rw [natsD_len, List.take_add_one, hS, List.map_append, List.map_append]
        refine ⟨⟨by rw [List.length_take]; omega, by omega⟩, ?_⟩
        rfl
      · rintro acc l ha ⟨rfl, rfl⟩
        rw [show (List.map optD (List.map some Ls)).length = Ls.length by simp, List.take_length]
        obtain ⟨S0, R, rfl⟩ : ∃ S0 R, Ls = S0 :: R := by
          cases Ls with
          | nil => simp at hlsl; omega
          | cons a b => exact ⟨a, b, rfl⟩
        obtain ⟨u', k', he, h1, h2, h3⟩ := hard_some R 1 0 S0.length
        have hall : ∀ S ∈ S0 :: R, S.length ≤ k' := fun S hS => by
          rcases List.mem_cons.mp hS with rfl | h
          · exact h1
          · exact h2 S h
        have hat : ((S0 :: R)[u']?).map List.length = some k' ∧ ∀ i S, i < u' → (S0 :: R)[i]? = some S → S.length < k' := by
          rcases h3 with ⟨rfl, rfl⟩ | ⟨j, rfl, h4, h5, h6⟩
          · exact ⟨rfl, fun i S hi => by omega⟩
          · rw [Nat.add_comm 1 j]
            refine ⟨by simpa using h4, fun i S hi hS => ?_⟩
            cases i with
            | zero => simp at hS; rw [← hS]; exact h5
            | succ i => exact h6 i S (by omega) (by simpa using hS)
        obtain ⟨S', hS', hk'⟩ := Option.map_eq_some_iff.mp hat.1
        have hmk : mx = (k' : Int) := by
          have e1 := hm2 (k' : Int) (List.mem_map.mpr ⟨S', List.mem_of_getElem? hS', by rw [hk']⟩)
          obtain ⟨S, hS, e2⟩ := List.mem_map.mp hm1
          have e3 := hall S hS
          omega
        subst hmk
        walk_at "q"
        refine ⟨(dOk_lints (ns := (S0 :: R).map fun S => (S.length : Int))).mpr trivial, u', D.int (k' : Int), ?_, by rw [D.eqv_int]; simp, fun i z hi hz => ?_, ?_⟩
        · show (((S0 :: R).map fun S => (S.length : Int)).map D.int)[u']? = _
          rw [List.getElem?_map, List.getElem?_map, hS']
          simp [hk']
        · have hz : (((S0 :: R).map fun S => (S.length : Int)).map D.int)[i]? = some z := hz
          rw [List.getElem?_map, List.getElem?_map] at hz
          cases hL : (S0 :: R)[i]? with
          | none => rw [hL] at hz; cases hz
          | some S =>
            rw [hL] at hz
            have := hat.2 i S hi hL
            cases hz
            rw [D.eqv_int]
            exact decide_eq_false (fun h => by have h : (S.length : Int) = (k' : Int) := h; omega)
        refine ⟨As, many, rfl, rfl, hA7, hm.2, hAm, ?_⟩
        rw [hls, show hardF (List.map some (S0 :: R)) 0 none = some (u', k') from he]
        simp only [hardD]
        walk_at "q"
        rw [D.eqv_self (by simp [noB]), if_neg (by decide)]
        refine lcI (fun i acc l => ∃ (Ws : AskL) (ns' : List Int), acc = Ws.map askD ∧ l = [.lst (ns'.map .int), .lst (As.map askD), .lst (List.map optD (List.map some (S0 :: R)))] ∧ Ws.length = i ∧ Pur ns') (by rw [rangeD_len]; decide) ⟨[], ns4, rfl, rfl, rfl, hp4⟩ ?_ ?_
        · rintro i x acc l hx ha ⟨Ws, ns', rfl, rfl, hWl, hp'⟩
          obtain ⟨hi2, rfl⟩ := rangeD_get hx
          walk_at "q"
          refine ⟨ns', 9, 2, rfl, rfl, hp', by omega, by omega, by omega, fun rs ns5 _ _ hp5 => ?_⟩
          walk_at "q"
          refine ⟨⟨by rw [hWl], by omega⟩, Ws ++ [(rs, .tup [.int i])], ns5, by simp, rfl, by simp [hWl], hp5⟩
        · rintro acc l ha ⟨Ws, ns', rfl, rfl, hWl, hp'⟩
          walk_at "q"
          refine ⟨ns', 10, rfl, rfl, hp', by omega, by omega, fun w ns5 w0 w1 hp5 => ?_⟩
          obtain ⟨w, rfl⟩ := Int.eq_ofNat_of_zero_le w0
          walk_at "q"
          refine ⟨Ws, w, rfl, rfl, by rw [hWl, rangeD_len]; omega, ?_⟩
          walk_at "q"
          exact q
end
abbrev m_TooMany : Stmt := methS (top 3) 0
theorem g_TooMany : ∃ q1 q2 q3 q4, SupT m_TooMany ["self", "limit"] ["self", "limit"] [.Assign [.Attribute (.Name "self" q1) "limit" q2] (.Name "limit" q3) q4] :=
  ⟨_, _, _, _, ⟨_, _, _, _, _, _, _, _, rfl, fun env => ⟨_, rfl⟩⟩, ⟨rfl, rfl, rfl, by decide +kernel, rfl, by decide +kernel, by decide +kernel, by decide +kernel, rfl, rfl⟩, ⟨_, rfl, rfl⟩⟩
set_option maxHeartbeats 0 in
theorem all_mk {l : PySem.W.OpenLaw} {w : World} {K : PySem.W.Frag} {h : Heap} {mg : Str → Option Value} {fa f0 f1 f2 f3 f4 f5 f6 f7 f8 f9 f10 f11 f12 f13 f14 f15 : Addr} (X : K.In h) (G : h.Ns mainGlobals mg) (hfa : mg "law" = some (.ref fa))
    {od0 an0 od1 an1 od2 an2 od3 an3 od4 an4 od5 an5 od6 an6 od7 an7 od8 an8 od9 an9 od10 an10 od11 an11 od12 an12 od13 an13 od14 an14 od15 an15 : Option Addr} {sl0 sl1 sl2 sl3 sl4 sl5 sl6 sl7 sl8 sl9 sl10 sl11 sl12 sl13 sl14 sl15 : Array (Option Value)} {oc0 kV0 dc0 pm0 cd0 ct0 oc1 kV1 dc1 pm1 cd1 ct1 oc2 kV2 dc2 pm2 cd2 ct2 oc3 kV3 dc3 pm3 cd3 ct3 oc4 kV4 dc4 pm4 cd4 ct4 oc5 kV5 dc5 pm5 cd5 ct5 oc6 kV6 dc6 pm6 cd6 ct6 oc7 kV7 dc7 pm7 cd7 ct7 oc8 kV8 dc8 pm8 cd8 ct8 oc9 kV9 dc9 pm9 cd9 ct9 oc10 kV10 dc10 pm10 cd10 ct10 oc11 kV11 dc11 pm11 cd11 ct11 oc12 kV12 dc12 pm12 cd12 ct12 oc13 kV13 dc13 pm13 cd13 ct13 oc14 kV14 dc14 pm14 cd14 ct14 oc15 kV15 dc15 pm15 cd15 ct15 : Value}
    {C0 C1 : Addr}
    (aC0 : PySem.W.nsIn K mainGlobals "ColumnError" = some (some (.ref C0)))
    (aC1 : PySem.W.nsIn K mainGlobals "TooMany" = some (some (.ref C1)))
    {fI1 cda1 cc1 : Addr} {xoc1 xkV1 xdc1 xpm1 xct1 ccl1 xcl1 : Value} {xod1 xan1 cdd1 cld1 : Option Addr} {xsl1 csl1 ccs1 : Array (Option Value)} {vs1 : Array Value} {file1 : Str} {tf1 : Tok}
    (bC1 : clsB K C1 = true)
    (iC1 : PySem.W.findIn K (.ref C1) "__init__" = some (some (.ref fI1)))
    (tI1 : PySem.W.typeIn K (.ref fI1) = some (.type "function"))
    (lI1 : K.lookup fI1 = some ⟨xoc1, xod1, .func (PySem.W.ksFn "__init__" "TooMany.__init__" (defArgs m_TooMany) (defBody m_TooMany) (defScope m_TooMany) .none xkV1 xdc1 xpm1 xan1 (.ref cda1) xct1 cc1), xsl1⟩)
    (cI1 : PySem.W.codeIn K (.ref cda1) "TooMany.__init__" = true)
    (dI1 : K.lookup cda1 = some ⟨ccl1, cdd1, .fields vs1, ccs1⟩)
    (vI1 : vs1[2]? = some (.str file1 tf1))
    (eI1 : ((l.prog.main.file : Str) == file1) = true)
    (kI1 : K.lookup cc1 = some ⟨xcl1, cld1, .cell (some (.ref C1)), csl1⟩)
    (sI1 : PySem.W.ks_superIn K C1 C1 "__init__" = some (some (.builtin "ValueError.__init__")))
    (bI1 : PySem.W.subIn K (.ref C1) (.type "ValueError") = some true)
    (n1_limit : PySem.W.findIn K (.ref C1) "limit" = some none)
    (hI : (l.prog.main.scope.names.lookup ("super" : Str)).isSome = false)
    (oI : PySem.W.nsIn K cStatics "thirdparty.any" = some none)
    (zI : PySem.W.nsIn K mainGlobals "super" = some none)
    (x1_0 : PySem.W.exmOne K (.ref C1) (.ref C0) = some true)
    (t1_TooMany : PySem.W.kitOne K (.ref C1) (.ref C1) = some (isa_TooMany "TooMany"))
    {gu0 : Value}
    (gc0 : PySem.W.nsIn K mainGlobals "MOST_THINGS" = some (some gu0))
    (gr0 : RelV (.int 8) gu0)
    (a0 : PySem.W.nsIn K mainGlobals "parted_pairs" = some (some (.ref f0)))
    (l0 : K.lookup f0 = some ⟨oc0, od0, .func (PySem.W.fnOf "parted_pairs" "parted_pairs" (defArgs s_parted_pairs) (defBody s_parted_pairs) (defScope s_parted_pairs) .none kV0 dc0 pm0 an0 cd0 ct0), sl0⟩)
    (c0 : PySem.W.codeIn K cd0 "parted_pairs" = true)
    (k0 : PySem.W.keepIn K (.ref f0) = true)
    (a1 : PySem.W.nsIn K mainGlobals "undominated" = some (some (.ref f1)))
    (l1 : K.lookup f1 = some ⟨oc1, od1, .func (PySem.W.fnOf "undominated" "undominated" (defArgs s_undominated) (defBody s_undominated) (defScope s_undominated) .none kV1 dc1 pm1 an1 cd1 ct1), sl1⟩)
    (c1 : PySem.W.codeIn K cd1 "undominated" = true)
    (k1 : PySem.W.keepIn K (.ref f1) = true)
    (a2 : PySem.W.nsIn K mainGlobals "first_cover" = some (some (.ref f2)))
    (l2 : K.lookup f2 = some ⟨oc2, od2, .func (PySem.W.fnOf "first_cover" "first_cover" (defArgs s_first_cover) (defBody s_first_cover) (defScope s_first_cover) .none kV2 dc2 pm2 an2 cd2 ct2), sl2⟩)
    (c2 : PySem.W.codeIn K cd2 "first_cover" = true)
    (k2 : PySem.W.keepIn K (.ref f2) = true)
    (a3 : PySem.W.nsIn K mainGlobals "least_tests" = some (some (.ref f3)))
    (l3 : K.lookup f3 = some ⟨oc3, od3, .func (PySem.W.fnOf "least_tests" "least_tests" (defArgs s_least_tests) (defBody s_least_tests) (defScope s_least_tests) .none kV3 dc3 pm3 an3 cd3 ct3), sl3⟩)
    (c3 : PySem.W.codeIn K cd3 "least_tests" = true)
    (k3 : PySem.W.keepIn K (.ref f3) = true)
    (a4 : PySem.W.nsIn K mainGlobals "parted_from" = some (some (.ref f4)))
    (l4 : K.lookup f4 = some ⟨oc4, od4, .func (PySem.W.fnOf "parted_from" "parted_from" (defArgs s_parted_from) (defBody s_parted_from) (defScope s_parted_from) .none kV4 dc4 pm4 an4 cd4 ct4), sl4⟩)
    (c4 : PySem.W.codeIn K cd4 "parted_from" = true)
    (k4 : PySem.W.keepIn K (.ref f4) = true)
    (a5 : PySem.W.nsIn K mainGlobals "lesson" = some (some (.ref f5)))
    (l5 : K.lookup f5 = some ⟨oc5, od5, .func (PySem.W.fnOf "lesson" "lesson" (defArgs s_lesson) (defBody s_lesson) (defScope s_lesson) .none kV5 dc5 pm5 an5 cd5 ct5), sl5⟩)
    (c5 : PySem.W.codeIn K cd5 "lesson" = true)
    (k5 : PySem.W.keepIn K (.ref f5) = true)
    (a6 : PySem.W.nsIn K mainGlobals "hardest" = some (some (.ref f6)))
    (l6 : K.lookup f6 = some ⟨oc6, od6, .func (PySem.W.fnOf "hardest" "hardest" (defArgs s_hardest) (defBody s_hardest) (defScope s_hardest) .none kV6 dc6 pm6 an6 cd6 ct6), sl6⟩)
    (c6 : PySem.W.codeIn K cd6 "hardest" = true)
    (k6 : PySem.W.keepIn K (.ref f6) = true)
    (a7 : PySem.W.nsIn K mainGlobals "_law_mixed" = some (some (.ref f7)))
    (l7 : K.lookup f7 = some ⟨oc7, od7, .func (PySem.W.fnOf "_law_mixed" "_law_mixed" (defArgs s_law_mixed) (defBody s_law_mixed) (defScope s_law_mixed) .none kV7 dc7 pm7 an7 cd7 ct7), sl7⟩)
    (c7 : PySem.W.codeIn K cd7 "_law_mixed" = true)
    (k7 : PySem.W.keepIn K (.ref f7) = true)
    (a8 : PySem.W.nsIn K mainGlobals "_law_purse" = some (some (.ref f8)))
    (l8 : K.lookup f8 = some ⟨oc8, od8, .func (PySem.W.fnOf "_law_purse" "_law_purse" (defArgs s_law_purse) (defBody s_law_purse) (defScope s_law_purse) .none kV8 dc8 pm8 an8 cd8 ct8), sl8⟩)
    (c8 : PySem.W.codeIn K cd8 "_law_purse" = true)
    (k8 : PySem.W.keepIn K (.ref f8) = true)
    (a9 : PySem.W.nsIn K mainGlobals "_law_take" = some (some (.ref f9)))
    (l9 : K.lookup f9 = some ⟨oc9, od9, .func (PySem.W.fnOf "_law_take" "_law_take" (defArgs s_law_take) (defBody s_law_take) (defScope s_law_take) .none kV9 dc9 pm9 an9 cd9 ct9), sl9⟩)
    (c9 : PySem.W.codeIn K cd9 "_law_take" = true)
    (k9 : PySem.W.keepIn K (.ref f9) = true)
    (a10 : PySem.W.nsIn K mainGlobals "_law_row" = some (some (.ref f10)))
    (l10 : K.lookup f10 = some ⟨oc10, od10, .func (PySem.W.fnOf "_law_row" "_law_row" (defArgs s_law_row) (defBody s_law_row) (defScope s_law_row) .none kV10 dc10 pm10 an10 cd10 ct10), sl10⟩)
    (c10 : PySem.W.codeIn K cd10 "_law_row" = true)
    (k10 : PySem.W.keepIn K (.ref f10) = true)
    (a11 : PySem.W.nsIn K mainGlobals "_law_sets" = some (some (.ref f11)))
    (l11 : K.lookup f11 = some ⟨oc11, od11, .func (PySem.W.fnOf "_law_sets" "_law_sets" (defArgs s_law_sets) (defBody s_law_sets) (defScope s_law_sets) .none kV11 dc11 pm11 an11 cd11 ct11), sl11⟩)
    (c11 : PySem.W.codeIn K cd11 "_law_sets" = true)
    (k11 : PySem.W.keepIn K (.ref f11) = true)
    (a12 : PySem.W.nsIn K mainGlobals "_law_parts_all" = some (some (.ref f12)))
    (l12 : K.lookup f12 = some ⟨oc12, od12, .func (PySem.W.fnOf "_law_parts_all" "_law_parts_all" (defArgs s_law_parts_all) (defBody s_law_parts_all) (defScope s_law_parts_all) .none kV12 dc12 pm12 an12 cd12 ct12), sl12⟩)
    (c12 : PySem.W.codeIn K cd12 "_law_parts_all" = true)
    (k12 : PySem.W.keepIn K (.ref f12) = true)
    (a13 : PySem.W.nsIn K mainGlobals "_law_fewest" = some (some (.ref f13)))
    (l13 : K.lookup f13 = some ⟨oc13, od13, .func (PySem.W.fnOf "_law_fewest" "_law_fewest" (defArgs s_law_fewest) (defBody s_law_fewest) (defScope s_law_fewest) .none kV13 dc13 pm13 an13 cd13 ct13), sl13⟩)
    (c13 : PySem.W.codeIn K cd13 "_law_fewest" = true)
    (k13 : PySem.W.keepIn K (.ref f13) = true)
    (a14 : PySem.W.nsIn K mainGlobals "_law_refused" = some (some (.ref f14)))
    (l14 : K.lookup f14 = some ⟨oc14, od14, .func (PySem.W.fnOf "_law_refused" "_law_refused" (defArgs s_law_refused) (defBody s_law_refused) (defScope s_law_refused) .none kV14 dc14 pm14 an14 cd14 ct14), sl14⟩)
    (c14 : PySem.W.codeIn K cd14 "_law_refused" = true)
    (k14 : PySem.W.keepIn K (.ref f14) = true)
    (a15 : PySem.W.nsIn K mainGlobals "law" = some (some (.ref f15)))
    (l15 : K.lookup f15 = some ⟨oc15, od15, .func (PySem.W.fnOf "law" "law" (defArgs s_law) (defBody s_law) (defScope s_law) .none kV15 dc15 pm15 an15 cd15 ct15), sl15⟩)
    (c15 : PySem.W.codeIn K cd15 "law" = true)
    (k15 : PySem.W.keepIn K (.ref f15) = true)
    (z0 : PySem.W.nsIn K mainGlobals "any" = some none)
    (z1 : PySem.W.nsIn K mainGlobals "int" = some none)
    (z2 : PySem.W.nsIn K mainGlobals "isinstance" = some none)
    (z3 : PySem.W.nsIn K mainGlobals "len" = some none)
    (z4 : PySem.W.nsIn K mainGlobals "max" = some none)
    (z5 : PySem.W.nsIn K mainGlobals "range" = some none)
    (z6 : PySem.W.nsIn K mainGlobals "sum" = some none)
    (z7 : PySem.W.nsIn K mainGlobals "tuple" = some none)
    : ∃ fd : FuncData, (∀ (s : Shared) (v : Value), BindsTo s fd ⟨[v], []⟩ [("script", v)]) ∧ ∀ base : Heap, K.In base → base.Ns mainGlobals mg → FnOk l.prog w K mg base (L2.CX l.prog w) 5 fa fd ["script"] (spQ K 1 fs_law) := by
  have e := hfa.symm.trans (PySem.W.mg_of X G a15)
  cases e
  have B : Bt mg := ⟨PySem.W.mg_none_of X G z0, PySem.W.mg_none_of X G z1, PySem.W.mg_none_of X G z2, PySem.W.mg_none_of X G z3, PySem.W.mg_none_of X G z4, PySem.W.mg_none_of X G z5, PySem.W.mg_none_of X G z6, PySem.W.mg_none_of X G z7⟩
  have M : Mg K mg := ⟨⟨_, PySem.W.mg_of X G gc0, gr0⟩⟩
  have eC0 := clsA_of aC0
  have eC1 := clsA_of aC1
  have T1 := clsB_ok bC1
  have S1 : SupI l.prog K mg C1 m_TooMany "TooMany.__init__" fI1 (PySem.W.ksFn "__init__" "TooMany.__init__" (defArgs m_TooMany) (defBody m_TooMany) (defScope m_TooMany) .none xkV1 xdc1 xpm1 xan1 (.ref cda1) xct1 cc1) :=
    ⟨⟨_, _, _, _, _, _, _, _, _, _, _, _, _, _, _, _, _, _, _, rfl, lI1, cI1, dI1, vI1, eI1, kI1⟩, hI, T1.oex, sI1, bI1, oI, PySem.W.mg_none_of X G zI⟩
  obtain ⟨_, _, _, _, g1⟩ := g_TooMany
  have x1 : ∀ base, MkQ l.prog w K mg base 1 "TooMany" ["limit"] := fun base => ⟨fI1, _, ["self", "limit"], by rw [eC1]; exact T1.oex, by rw [eC1]; exact iC1, tI1, by rw [eC1]; exact init1 S1 g1 n1_limit (by decide) (by decide), .all (fun us hl => match us, hl with | [_, _], _ => rfl), by rw [eC1]; exact PySem.W.mg_of X G aC1⟩
  have Y : Ys K mg := by
   refine ⟨?y0, ?y1, ?y2, ?y3, ?y4⟩
   case y0 => rw [eC0]; exact PySem.W.mg_of X G aC0
   case y1 => rw [eC1]; exact PySem.W.mg_of X G aC1
   case y2 => exact tabAll (by
    intro p hp
    simp only [List.mem_cons, List.not_mem_nil, or_false] at hp
    subst hp
    show PySem.W.exmOne K (.ref (clsA K "TooMany")) (.ref (clsA K "ColumnError")) = some true
    rw [eC1, eC0]
    exact x1_0)
   case y3 => 
      intro y hy
      simp only [List.mem_cons, List.not_mem_nil, or_false] at hy
      subst hy
      rw [eC1]
      exact ⟨T1.xf, n1_limit⟩
   case y4 => 
      intro y hy
      simp only [List.mem_cons, List.not_mem_nil, or_false] at hy
      subst hy
      rw [eC1]
      exact ⟨T1.exc, t1_TooMany⟩
  have F0 := fun_mk (st := s_parted_pairs) l0 c0 k0
  have F1 := fun_mk (st := s_undominated) l1 c1 k1
  have F2 := fun_mk (st := s_first_cover) l2 c2 k2
  have F3 := fun_mk (st := s_least_tests) l3 c3 k3
  have F4 := fun_mk (st := s_parted_from) l4 c4 k4
  have F5 := fun_mk (st := s_lesson) l5 c5 k5
  have F6 := fun_mk (st := s_hardest) l6 c6 k6
  have F7 := fun_mk (st := s_law_mixed) l7 c7 k7
  have F8 := fun_mk (st := s_law_purse) l8 c8 k8
  have F9 := fun_mk (st := s_law_take) l9 c9 k9
  have F10 := fun_mk (st := s_law_row) l10 c10 k10
  have F11 := fun_mk (st := s_law_sets) l11 c11 k11
  have F12 := fun_mk (st := s_law_parts_all) l12 c12 k12
  have F13 := fun_mk (st := s_law_fewest) l13 c13 k13
  have F14 := fun_mk (st := s_law_refused) l14 c14 k14
  have F15 := fun_mk (st := s_law) l15 c15 k15
  refine ⟨PySem.W.fnOf "law" "law" (defArgs s_law) (defBody s_law) (defScope s_law) .none kV15 dc15 pm15 an15 cd15 ct15, fun s v => .of_eq rfl, fun base _ _ => ?_⟩
  have R : Rs l.prog w K mg base := ⟨x1 base⟩
  have q0 := calq F0 (PySem.W.mg_of X G a0) (ok_parted_pairs (P := l.prog) (w := w) (mg := mg) (base := base) F0 B) (fun _ _ _ _ _ _ us hl => match us, hl with | [_], _ => rfl)
  have q1 := calq F1 (PySem.W.mg_of X G a1) (ok_undominated (P := l.prog) (w := w) (mg := mg) (base := base) F1 B) (fun _ _ _ _ _ _ us hl => match us, hl with | [_], _ => rfl)
  have q2 := calq F2 (PySem.W.mg_of X G a2) (ok_first_cover (P := l.prog) (w := w) (mg := mg) (base := base) F2 B) (fun _ _ _ _ _ _ us hl => match us, hl with | [_, _, _, _], _ => rfl)
  have q3 := calq F3 (PySem.W.mg_of X G a3) (ok_least_tests (P := l.prog) (w := w) (mg := mg) (base := base) F3 B ⟨q0, q1, q2⟩ M R) (fun _ _ _ _ _ _ us hl => match us, hl with | [_, _], _ => rfl)
  have q4 := calq F4 (PySem.W.mg_of X G a4) (ok_parted_from (P := l.prog) (w := w) (mg := mg) (base := base) F4 B) (fun _ _ _ _ _ _ us hl => match us, hl with | [_, _], _ => rfl)
  have q5 := calq F5 (PySem.W.mg_of X G a5) (ok_lesson (P := l.prog) (w := w) (mg := mg) (base := base) F5 B ⟨q1, q2, q4⟩ M R) (fun _ _ _ _ _ _ us hl => match us, hl with | [_, _, _], _ => rfl)
  have q6 := calq F6 (PySem.W.mg_of X G a6) (ok_hardest (P := l.prog) (w := w) (mg := mg) (base := base) F6 B ⟨q5⟩) (fun _ _ _ _ _ _ us hl => match us, hl with | [_, _], _ => rfl)
  have q7 := calq F7 (PySem.W.mg_of X G a7) (ok_law_mixed (P := l.prog) (w := w) (mg := mg) (base := base) F7 B) (fun _ _ _ _ _ _ us hl => match us, hl with | [_, _], _ => rfl)
  have q8 := calq F8 (PySem.W.mg_of X G a8) (ok_law_purse (P := l.prog) (w := w) (mg := mg) (base := base) F8 B ⟨q7⟩) (fun _ _ _ _ _ _ us hl => match us, hl with | [_], _ => rfl)
  have q9 := calq F9 (PySem.W.mg_of X G a9) (ok_law_take (P := l.prog) (w := w) (mg := mg) (base := base) F9 B) (fun _ _ _ _ _ _ us hl => match us, hl with | [_, _], _ => rfl)
  have q10 := calq F10 (PySem.W.mg_of X G a10) (ok_law_row (P := l.prog) (w := w) (mg := mg) (base := base) F10 B ⟨q9⟩) (fun _ _ _ _ _ _ us hl => match us, hl with | [_, _, _], _ => rfl)
  have q11 := calq F11 (PySem.W.mg_of X G a11) (ok_law_sets (P := l.prog) (w := w) (mg := mg) (base := base) F11 B) (fun _ _ _ _ _ _ us hl => match us, hl with | [_, _], _ => rfl)
  have q12 := calq F12 (PySem.W.mg_of X G a12) (ok_law_parts_all (P := l.prog) (w := w) (mg := mg) (base := base) F12 B) (fun _ _ _ _ _ _ us hl => match us, hl with | [_, _, _], _ => rfl)
  have q13 := calq F13 (PySem.W.mg_of X G a13) (ok_law_fewest (P := l.prog) (w := w) (mg := mg) (base := base) F13 B ⟨q11, q12⟩) (fun _ _ _ _ _ _ us hl => match us, hl with | [_, _], _ => rfl)
  have q14 := calq F14 (PySem.W.mg_of X G a14) (ok_law_refused (P := l.prog) (w := w) (mg := mg) (base := base) F14 B ⟨q3, q5⟩ Y) (fun _ _ _ _ _ _ us hl => match us, hl with | [_, _], _ => rfl)
  exact ok_law F15 B ⟨q3, q5, q6, q8, q9, q10, q13, q14⟩
end W73
open PySem PySem.W PyProof.Rows
set_option maxHeartbeats 0 in
theorem PySem.Challenge.cw_columnwright_k73_tests_and_lessons_holds : PySem.Challenge.rw_columnwright_k73_tests_and_lessons.Holds := by
  w_on; o_law; k_head; (case hw => w_witness2)
  k_fill
  refine L2.walk_of (l := PySem.Challenge.rw_columnwright_k73_tests_and_lessons) (n := 63) (k := 5) (x := "script") (CX := fun w => L2.CX PySem.Challenge.rw_columnwright_k73_tests_and_lessons.prog w) (sp := fun w => QL.spQ _ 1 W73.fs_law) rfl (by decide) rfl ⟨rfl, by decide, by decide⟩ (fun w h Y => PySem.W.kIn_of Y) ?F (fun _ _ a ns hl hO hS => QL.end_sp hO hS (W73.fs_end ns hl)) (fun _ _ _ _ _ h => QL.end_cx h)
  case F =>
    intro w mg fa h KX G hmg
    refine' W73.all_mk KX G hmg ?aC0 ?aC1 ?bC1 ?iC1 ?tI1 ?lI1 ?cI1 ?dI1 ?vI1 ?eI1 ?kI1 ?sI1 ?bI1 ?n1_limit ?hI ?oI ?zI ?x1_0 ?t1_TooMany ?gc0 ?gr0 ?a0 ?l0 ?c0 ?k0 ?a1 ?l1 ?c1 ?k1 ?a2 ?l2 ?c2 ?k2 ?a3 ?l3 ?c3 ?k3 ?a4 ?l4 ?c4 ?k4 ?a5 ?l5 ?c5 ?k5 ?a6 ?l6 ?c6 ?k6 ?a7 ?l7 ?c7 ?k7 ?a8 ?l8 ?c8 ?k8 ?a9 ?l9 ?c9 ?k9 ?a10 ?l10 ?c10 ?k10 ?a11 ?l11 ?c11 ?k11 ?a12 ?l12 ?c12 ?k12 ?a13 ?l13 ?c13 ?k13 ?a14 ?l14 ?c14 ?k14 ?a15 ?l15 ?c15 ?k15 ?z0 ?z1 ?z2 ?z3 ?z4 ?z5 ?z6 ?z7
    (case aC0 => k_is)
    (case aC1 => k_is)
    (case bC1 => kernel_rfl)
    (case iC1 => k_is)
    (case tI1 => k_is)
    (case lI1 => k_is)
    (case cI1 => k_is)
    (case dI1 => k_is)
    (case vI1 => rfl)
    (case eI1 => first | rfl | decide +kernel)
    (case kI1 => k_is)
    (case sI1 => ks_is)
    (case bI1 => k_is)
    (case n1_limit => k_is)
    (case hI => first | rfl | decide +kernel)
    (case oI => k_is)
    (case zI => k_is)
    (case x1_0 => kernel_rfl)
    (case t1_TooMany => first | kernel_rfl | decide +kernel)
    (case gc0 => k_is)
    (case gr0 => exact ⟨_, by first | rfl | kernel_rfl⟩)
    (case a0 => k_is)
    (case l0 => k_is)
    (case c0 => k_is)
    (case k0 => k_is)
    (case a1 => k_is)
    (case l1 => k_is)
    (case c1 => k_is)
    (case k1 => k_is)
    (case a2 => k_is)
    (case l2 => k_is)
    (case c2 => k_is)
    (case k2 => k_is)
    (case a3 => k_is)
    (case l3 => k_is)
    (case c3 => k_is)
    (case k3 => k_is)
    (case a4 => k_is)
    (case l4 => k_is)
    (case c4 => k_is)
    (case k4 => k_is)
    (case a5 => k_is)
    (case l5 => k_is)
    (case c5 => k_is)
    (case k5 => k_is)
    (case a6 => k_is)
    (case l6 => k_is)
    (case c6 => k_is)
    (case k6 => k_is)
    (case a7 => k_is)
    (case l7 => k_is)
    (case c7 => k_is)
    (case k7 => k_is)
    (case a8 => k_is)
    (case l8 => k_is)
    (case c8 => k_is)
    (case k8 => k_is)
    (case a9 => k_is)
    (case l9 => k_is)
    (case c9 => k_is)
    (case k9 => k_is)
    (case a10 => k_is)
    (case l10 => k_is)
    (case c10 => k_is)
    (case k10 => k_is)
    (case a11 => k_is)
    (case l11 => k_is)
    (case c11 => k_is)
    (case k11 => k_is)
    (case a12 => k_is)
    (case l12 => k_is)
    (case c12 => k_is)
    (case k12 => k_is)
    (case a13 => k_is)
    (case l13 => k_is)
    (case c13 => k_is)
    (case k13 => k_is)
    (case a14 => k_is)
    (case l14 => k_is)
    (case c14 => k_is)
    (case k14 => k_is)
    (case a15 => k_is)
    (case l15 => k_is)
    (case c15 => k_is)
    (case k15 => k_is)
    (case z0 => k_is)
    (case z1 => k_is)
    (case z2 => k_is)
    (case z3 => k_is)
    (case z4 => k_is)
    (case z5 => k_is)
    (case z6 => k_is)
    (case z7 => k_is)
