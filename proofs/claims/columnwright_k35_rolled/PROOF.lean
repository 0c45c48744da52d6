import PyProof.Rows.All
import Wide.All
import OpenK.AllK
import Wide.FinOn
import HandS.ForMost
import HandS.ForExc
import HandS.ForSpec
import HandS.Conv
import HandS.TupAny
import HandS.Wide
import HandS.IsInst
import KE.BitLaws
import HandS.WideBits
import PySem.Challenge.RW_columnwright_k35_rolled
set_option Elab.async false
set_option linter.all false
set_option maxRecDepth 100000
set_option maxHeartbeats 4000000
/-! QL: a layer of plain data over the hand layer. Values D have no addresses; what may change stands in numbered cells. -/
namespace QL
open PySem L2

inductive D where
  | non | bl (b : Bool) | int (i : Int) | str (x : Str) | ty (n : String)
  | tup (xs : List D) | lst (xs : List D) | scr (xs : List D)
  | obj (C : Addr) (ns : List Str) (vs : List D)

/-- an exception: its class, its fields -/
inductive Ex where
  | own (C : Addr) (ns : List Str) (vs : List D)
  | blt (n : String)

inductive P where
  | d (x : D) | loc (n : Nat)
  | exc (a : Addr) (cls : Value) (dd : Option Addr) (ex : Ex)

inductive Cell where
  | lst (xs : List D) | frz (xs : List D)

abbrev LS := List Cell
abbrev SS := List (Option P)

/-- a point: the abstract heap, the addresses of the cells, what never changes any more -/
structure Pt where
  H : Hp
  rho : List Addr
  F : Addr → Prop

section
variable (K : PySem.W.Frag)
def TupAt (p : Pt) (a : Addr) (vs : List V) : Prop := (p.F a ∧ Rd p.H a (.tup vs)) ∨ SqT K (fun _ => none) a vs
def LstAt (p : Pt) (a : Addr) (vs : List V) : Prop := p.F a ∧ p.H a = some (.lst vs)
def ScrAt (p : Pt) (a : Addr) (vs : List V) : Prop := (p.F a ∧ Rd p.H a (.lst vs)) ∨ SqL K (fun _ => none) a vs
mutual
inductive RD (p : Pt) : D → V → Prop
  | non : RD p .non .non
  | bl (b : Bool) : RD p (.bl b) (.bl b)
  | int (i : Int) : RD p (.int i) (.int i)
  | str (x : Str) : RD p (.str x) (.str x)
  | ty (n : String) : RD p (.ty n) (.ty n)
  | tup {a : Addr} {xs : List D} {vs : List V} : TupAt K p a vs → RDs p xs vs → RD p (.tup xs) (.ref a)
  | lst {a : Addr} {xs : List D} {vs : List V} : LstAt p a vs → RDs p xs vs → RD p (.lst xs) (.ref a)
  | scr {a : Addr} {xs : List D} {vs : List V} : ScrAt K p a vs → RDs p xs vs → RD p (.scr xs) (.ref a)
  | obj {a C dx : Addr} {ns : List Str} {xs : List D} {vs : List V} : p.F a → p.H a = some (.ins C dx (ns.zip vs)) → RDs p xs vs → RD p (.obj C ns xs) (.ref a)
inductive RDs (p : Pt) : List D → List V → Prop
  | nil : RDs p [] []
  | cons {x : D} {v : V} {xs : List D} {vs : List V} : RD p x v → RDs p xs vs → RDs p (x :: xs) (v :: vs)
end
def XR (p : Pt) : Ex → Value → Option Addr → Prop
  | .own C ns xs, cls, d => cls = .ref C ∧ ∃ a vs, d = some a ∧ p.F a ∧ p.H a = some (.xd (ns.zip vs)) ∧ RDs K p xs vs
  | .blt n, cls, d => cls = .type n ∧ d = none
def RP (p : Pt) : P → V → Prop
  | .d x, v => RD K p x v
  | .loc n, v => ∃ a, p.rho[n]? = some a ∧ v = .ref a
  | .exc a cls d ex, v => v = .ref a ∧ XR K p ex cls d
def CellOk (p : Pt) : Cell → Addr → Prop
  | .lst xs, a => ¬ p.F a ∧ ∃ vs, p.H a = some (.lst vs) ∧ RDs K p xs vs
  | .frz xs, a => ∃ vs, LstAt p a vs ∧ RDs K p xs vs
structure WF (p : Pt) : Prop where
  nd : p.rho.Nodup
  hs : ∀ a ∈ p.rho, ∃ o, p.H a = some o
  fs : ∀ a, p.F a → ∃ o, p.H a = some o
structure HF (p p' : Pt) : Prop where
  fm : ∀ a, p.F a → p'.F a
  keepF : ∀ b o, p.H b = some o → p.F b → p'.H b = some o
structure Ext (p p' : Pt) : Prop where
  pre : ∃ t, p'.rho = p.rho ++ t
  new : ∀ a ∈ p'.rho, a ∈ p.rho ∨ p.H a = none
  fm : ∀ a, p.F a → p'.F a
  fn : ∀ a, p'.F a → p.F a ∨ p.H a = none ∨ a ∈ p.rho
  keep : ∀ b o, p.H b = some o → b ∉ p.rho → p'.H b = some o
  keepF : ∀ b o, p.H b = some o → p.F b → p'.H b = some o
  there : ∀ b o, p.H b = some o → ∃ o', p'.H b = some o'
def Cells (p : Pt) (l : LS) : Prop := l.length = p.rho.length ∧ ∀ (i : Nat) (c : Cell), l[i]? = some c → ∃ a, p.rho[i]? = some a ∧ CellOk K p c a
def Slots (p : Pt) (σd : SS) (σ : St) : Prop := σd.length = σ.length ∧ ∀ (i : Nat) (d : P), σd[i]? = some (some d) → ∃ v, σ[i]? = some (some v) ∧ RP K p d v
structure Rel (p : Pt) (σ : St) (σd : SS) (l : LS) : Prop where
  wf : WF p
  sl : Slots K p σd σ
  ce : Cells K p l
end

section
variable {K : PySem.W.Frag} {p p' p'' : Pt} {a : Addr}
theorem Ext.refl (p : Pt) : Ext p p := ⟨⟨[], by simp⟩, fun _ h => .inl h, fun _ h => h, fun _ h => .inl h, fun _ _ h _ => h, fun _ _ h _ => h, fun _ o h => ⟨o, h⟩⟩
theorem none_back (e : Ext p p') (h : p'.H a = none) : p.H a = none := by
  cases q : p.H a with
  | none => rfl
  | some o =>
    obtain ⟨o', z⟩ := e.there _ _ q
    rw [h] at z
    cases z
theorem Ext.trans (e : Ext p p') (f : Ext p' p'') : Ext p p'' := by
  obtain ⟨t, ht⟩ := e.pre
  obtain ⟨u, hu⟩ := f.pre
  refine ⟨⟨t ++ u, by rw [hu, ht, List.append_assoc]⟩, fun a h => ?_, fun a h => f.fm a (e.fm a h), fun a h => ?_, fun b o h n => ?_, fun b o h n => f.keepF b o (e.keepF b o h n) (e.fm b n), fun b o h => ?_⟩
  · rcases f.new a h with h | h
    · exact e.new a h
    · exact .inr (none_back e h)
  · rcases f.fn a h with h | h | h
    · exact e.fn a h
    · exact .inr (.inl (none_back e h))
    · rcases e.new a h with h | h
      · exact .inr (.inr h)
      · exact .inr (.inl h)
  · by_cases m : b ∈ p'.rho
    · rcases e.new b m with z | z
      · exact absurd z n
      · rw [h] at z; cases z
    · exact f.keep b o (e.keep b o h n) m
  · obtain ⟨o', h'⟩ := e.there b o h
    exact f.there b o' h'
theorem rd_keep {H H' : Hp} {u : HO} (h : Rd H a u) (k : ∀ o, H a = some o → H' a = some o) : Rd H' a u := by
  rcases h with h | ⟨o, h⟩
  · exact .inl (k _ h)
  · exact .inr ⟨o, k _ h⟩
theorem Ext.hf (e : Ext p p') : HF p p' := ⟨e.fm, e.keepF⟩
theorem TupAt.mono {vs : List V} (e : HF p p') (h : TupAt K p a vs) : TupAt K p' a vs := by
  rcases h with ⟨f, h⟩ | h
  · exact .inl ⟨e.fm _ f, rd_keep h fun o z => e.keepF _ _ z f⟩
  · exact .inr h
theorem LstAt.mono {vs : List V} (e : HF p p') (h : LstAt p a vs) : LstAt p' a vs := ⟨e.fm _ h.1, e.keepF _ _ h.2 h.1⟩
theorem ScrAt.mono {vs : List V} (e : HF p p') (h : ScrAt K p a vs) : ScrAt K p' a vs := by
  rcases h with ⟨f, h⟩ | h
  · exact .inl ⟨e.fm _ f, rd_keep h fun o z => e.keepF _ _ z f⟩
  · exact .inr h
theorem seqT_empty {H : Hp} {vs : List V} (h : SqT K (fun _ => none) a vs) : SqT K H a vs := by
  rcases h with (h | ⟨o, h⟩) | h
  · cases h
  · cases h
  · exact .inr h
theorem seqL_empty {H : Hp} {vs : List V} (h : SqL K (fun _ => none) a vs) : SqL K H a vs := by
  rcases h with (h | ⟨o, h⟩) | h
  · cases h
  · cases h
  · exact .inr h
theorem TupAt.sq {vs : List V} (h : TupAt K p a vs) : SqT K p.H a vs := by
  rcases h with ⟨_, h⟩ | h
  · exact .inl h
  · exact seqT_empty h
theorem LstAt.sq {vs : List V} (h : LstAt p a vs) : SqL K p.H a vs := .inl (.inl h.2)
theorem ScrAt.sq {vs : List V} (h : ScrAt K p a vs) : SqL K p.H a vs := by
  rcases h with ⟨_, h⟩ | h
  · exact .inl h
  · exact seqL_empty h
mutual
theorem RD.mono (e : HF p p') : ∀ {x : D} {v : V}, RD K p x v → RD K p' x v
  | _, _, .non => .non
  | _, _, .bl b => .bl b
  | _, _, .int i => .int i
  | _, _, .str x => .str x
  | _, _, .ty n => .ty n
  | _, _, .tup h r => .tup (h.mono e) (RDs.mono e r)
  | _, _, .lst h r => .lst (h.mono e) (RDs.mono e r)
  | _, _, .scr h r => .scr (h.mono e) (RDs.mono e r)
  | _, _, .obj f h r => .obj (e.fm _ f) (e.keepF _ _ h f) (RDs.mono e r)
theorem RDs.mono (e : HF p p') : ∀ {xs : List D} {vs : List V}, RDs K p xs vs → RDs K p' xs vs
  | _, _, .nil => .nil
  | _, _, .cons h r => .cons (RD.mono e h) (RDs.mono e r)
end
theorem RDs.len : ∀ {xs : List D} {vs : List V}, RDs K p xs vs → xs.length = vs.length
  | _, _, .nil => rfl
  | _, _, .cons _ r => by simp [RDs.len r]
theorem RDs.get : ∀ {xs : List D} {vs : List V} {i : Nat} {x : D}, RDs K p xs vs → xs[i]? = some x → ∃ v, vs[i]? = some v ∧ RD K p x v
  | _, _, _, _, .nil, h => by simp at h
  | _, _, 0, _, .cons h _, e => ⟨_, rfl, by simp at e; rw [← e]; exact h⟩
  | _, _, i + 1, _, .cons _ r, e => by
    obtain ⟨v, h1, h2⟩ := RDs.get (i := i) r (by simpa using e)
    exact ⟨v, by simpa using h1, h2⟩
theorem RDs.append : ∀ {xs ys : List D} {vs ws : List V}, RDs K p xs vs → RDs K p ys ws → RDs K p (xs ++ ys) (vs ++ ws)
  | _, _, _, _, .nil, s => s
  | _, _, _, _, .cons h r, s => .cons h (RDs.append r s)
theorem RDs.set {x : D} {v : V} (h : RD K p x v) : ∀ {xs : List D} {vs : List V} (i : Nat), RDs K p xs vs → RDs K p (xs.set i x) (vs.set i v)
  | _, _, _, .nil => .nil
  | _, _, 0, .cons _ t => .cons h t
  | _, _, i + 1, .cons q t => .cons q (RDs.set h i t)
theorem RDs.take : ∀ {xs : List D} {vs : List V} (n : Nat), RDs K p xs vs → RDs K p (xs.take n) (vs.take n)
  | _, _, 0, _ => .nil
  | _, _, _ + 1, .nil => .nil
  | _, _, n + 1, .cons h t => .cons h (RDs.take n t)
theorem RDs.drop : ∀ {xs : List D} {vs : List V} (n : Nat), RDs K p xs vs → RDs K p (xs.drop n) (vs.drop n)
  | _, _, 0, h => h
  | _, _, _ + 1, .nil => .nil
  | _, _, n + 1, .cons _ t => RDs.drop n t
theorem RDs.reverse : ∀ {xs : List D} {vs : List V}, RDs K p xs vs → RDs K p xs.reverse vs.reverse
  | _, _, .nil => .nil
  | _, _, .cons h r => by
    rw [List.reverse_cons, List.reverse_cons]
    exact RDs.append (RDs.reverse r) (.cons h .nil)
theorem RDs.eraseIdx : ∀ {xs : List D} {vs : List V} (n : Nat), RDs K p xs vs → RDs K p (xs.eraseIdx n) (vs.eraseIdx n)
  | _, _, _, .nil => .nil
  | _, _, 0, .cons _ t => t
  | _, _, n + 1, .cons h t => .cons h (RDs.eraseIdx n t)
theorem RDs.dropLast {xs : List D} {vs : List V} (h : RDs K p xs vs) : RDs K p xs.dropLast vs.dropLast := by
  rw [List.dropLast_eq_take, List.dropLast_eq_take, h.len]
  exact h.take _
theorem XR.mono (e : HF p p') {ex : Ex} {c : Value} {d : Option Addr} (h : XR K p ex c d) : XR K p' ex c d := by
  cases ex with
  | own C ns xs =>
    obtain ⟨h1, a, vs, h2, f, h3, h4⟩ := h
    exact ⟨h1, a, vs, h2, e.fm _ f, e.keepF _ _ h3 f, h4.mono e⟩
  | blt n => exact h
theorem RP.mono (e : Ext p p') {x : P} {v : V} (h : RP K p x v) : RP K p' x v := by
  cases x with
  | d x => exact RD.mono e.hf h
  | loc n =>
    obtain ⟨a, h1, h2⟩ := h
    obtain ⟨t, ht⟩ := e.pre
    refine ⟨a, ?_, h2⟩
    rw [ht, List.getElem?_append_left]
    · exact h1
    · exact (List.getElem?_eq_some_iff.mp h1).1
  | exc a c d ex => exact ⟨h.1, h.2.mono e.hf⟩
theorem Slots.mono (e : Ext p p') {σ : St} {σd : SS} (h : Slots K p σd σ) : Slots K p' σd σ := ⟨h.1, fun i d q => by
  obtain ⟨v, h1, h2⟩ := h.2 i d q
  exact ⟨v, h1, h2.mono e⟩⟩
theorem Slots.set {σ : St} {σd : SS} (h : Slots K p σd σ) {i : Nat} {d : P} {v : V} (r : RP K p d v) : Slots K p (σd.set i (some d)) (σ.set i (some v)) := by
  refine ⟨by simp [h.1], fun j d' q => ?_⟩
  by_cases e : i = j
  · subst e
    by_cases hl : i < σd.length
    · rw [List.getElem?_set_self hl] at q
      cases q
      exact ⟨v, List.getElem?_set_self (by rw [← h.1]; exact hl), r⟩
    · rw [List.getElem?_eq_none (by simpa using hl)] at q
      cases q
  · rw [List.getElem?_set_ne e] at q ⊢
    exact h.2 j d' q
theorem Slots.setNone {σ : St} {σd : SS} (h : Slots K p σd σ) {i : Nat} : Slots K p (σd.set i none) (σ.set i none) := by
  refine ⟨by simp [h.1], fun j d' q => ?_⟩
  by_cases e : i = j
  · subst e
    by_cases hl : i < σd.length
    · rw [List.getElem?_set_self hl] at q
      cases q
    · rw [List.getElem?_eq_none (by simpa using hl)] at q
      cases q
  · rw [List.getElem?_set_ne e] at q ⊢
    exact h.2 j d' q

/-- a new thing that never changes -/
abbrev Pt.frz (p : Pt) (a : Addr) (o : HO) : Pt := ⟨upd p.H a o, p.rho, fun b => p.F b ∨ b = a⟩
/-- a new cell -/
abbrev Pt.new (p : Pt) (a : Addr) (o : HO) : Pt := ⟨upd p.H a o, p.rho ++ [a], p.F⟩
/-- a cell written -/
abbrev Pt.put (p : Pt) (a : Addr) (o : HO) : Pt := ⟨upd p.H a o, p.rho, p.F⟩
/-- a cell that will not change any more -/
abbrev Pt.ice (p : Pt) (a : Addr) : Pt := ⟨p.H, p.rho, fun b => p.F b ∨ b = a⟩
theorem upd_some {H : Hp} {b : Addr} {o u : HO} (h : H b = some u) : ∃ z, upd H a o b = some z := by
  by_cases e : b = a
  · exact ⟨o, by rw [e, upd_same]⟩
  · exact ⟨u, by rw [upd_ne e]; exact h⟩
theorem WF.nrho (w : WF p) (h : p.H a = none) : a ∉ p.rho := fun m => by
  obtain ⟨o, z⟩ := w.hs a m
  rw [h] at z; cases z
theorem WF.nF (w : WF p) (h : p.H a = none) : ¬ p.F a := fun m => by
  obtain ⟨o, z⟩ := w.fs a m
  rw [h] at z; cases z
theorem ext_frz {o : HO} (h : p.H a = none) : Ext p (p.frz a o) := by
  refine ⟨⟨[], by simp⟩, fun _ z => .inl z, fun _ z => .inl z, fun b z => ?_, fun b u z _ => ?_, fun b u z _ => ?_, fun b u z => upd_some z⟩
  · rcases z with z | z
    · exact .inl z
    · exact .inr (.inl (by rw [z]; exact h))
  · show upd _ _ _ _ = _
    rw [upd_ne (ne_of_none z h)]; exact z
  · show upd _ _ _ _ = _
    rw [upd_ne (ne_of_none z h)]; exact z
theorem wf_frz {o : HO} (w : WF p) : WF (p.frz a o) := by
  refine ⟨w.nd, fun b m => ?_, fun b m => ?_⟩
  · obtain ⟨u, z⟩ := w.hs b m
    exact upd_some z
  · rcases m with m | m
    · obtain ⟨u, z⟩ := w.fs b m
      exact upd_some z
    · exact ⟨o, by show upd _ _ _ _ = _; rw [m, upd_same]⟩
theorem ext_new {o : HO} (h : p.H a = none) : Ext p (p.new a o) := by
  refine ⟨⟨[a], rfl⟩, fun b z => ?_, fun _ z => z, fun b z => .inl z, fun b u z _ => ?_, fun b u z _ => ?_, fun b u z => upd_some z⟩
  · rcases List.mem_append.mp z with z | z
    · exact .inl z
    · simp at z
      exact .inr (by rw [z]; exact h)
  · show upd _ _ _ _ = _
    rw [upd_ne (ne_of_none z h)]; exact z
  · show upd _ _ _ _ = _
    rw [upd_ne (ne_of_none z h)]; exact z
theorem wf_new {o : HO} (w : WF p) (h : p.H a = none) : WF (p.new a o) := by
  refine ⟨?_, fun b m => ?_, fun b m => ?_⟩
  · show (p.rho ++ [a]).Nodup
    rw [List.nodup_append]
    refine ⟨w.nd, by simp, fun x hx y hy e => ?_⟩
    simp at hy
    subst hy; subst e
    exact w.nrho h hx
  · rcases List.mem_append.mp m with m | m
    · obtain ⟨u, z⟩ := w.hs b m
      exact upd_some z
    · simp at m
      exact ⟨o, by show upd _ _ _ _ = _; rw [m, upd_same]⟩
  · obtain ⟨u, z⟩ := w.fs b m
    exact upd_some z
theorem ext_put {o : HO} (hr : a ∈ p.rho) (hf : ¬ p.F a) : Ext p (p.put a o) := by
  refine ⟨⟨[], by simp⟩, fun _ z => .inl z, fun _ z => z, fun b z => .inl z, fun b u z n => ?_, fun b u z n => ?_, fun b u z => upd_some z⟩
  · show upd _ _ _ _ = _
    rw [upd_ne (fun e => n (by rw [e]; exact hr))]; exact z
  · show upd _ _ _ _ = _
    rw [upd_ne (fun e => hf (by rw [← e]; exact n))]; exact z
theorem wf_put {o : HO} (w : WF p) : WF (p.put a o) := by
  refine ⟨w.nd, fun b m => ?_, fun b m => ?_⟩
  · obtain ⟨u, z⟩ := w.hs b m
    exact upd_some z
  · obtain ⟨u, z⟩ := w.fs b m
    exact upd_some z
theorem ext_ice (hr : a ∈ p.rho) : Ext p (p.ice a) := by
  refine ⟨⟨[], by simp⟩, fun _ z => .inl z, fun _ z => .inl z, fun b z => ?_, fun b u z n => z, fun b u z n => z, fun b u z => ⟨u, z⟩⟩
  rcases z with z | z
  · exact .inl z
  · exact .inr (.inr (by rw [z]; exact hr))
theorem wf_ice (w : WF p) (hr : a ∈ p.rho) : WF (p.ice a) := by
  refine ⟨w.nd, w.hs, fun b m => ?_⟩
  rcases m with m | m
  · exact w.fs b m
  · rw [m]; exact w.hs a hr
theorem CellOk.mono {c : Cell} {b : Addr} (e : Ext p p') (h : CellOk K p c b) (k : p'.H b = p.H b) (kf : p'.F b → p.F b) : CellOk K p' c b := by
  cases c with
  | lst xs =>
    obtain ⟨nf, vs, h1, h2⟩ := h
    exact ⟨fun z => nf (kf z), vs, by rw [k]; exact h1, h2.mono e.hf⟩
  | frz xs =>
    obtain ⟨vs, h1, h2⟩ := h
    exact ⟨vs, h1.mono e.hf, h2.mono e.hf⟩
theorem Cells.get {l : LS} {i : Nat} {c : Cell} (h : Cells K p l) (e : l[i]? = some c) : ∃ a, p.rho[i]? = some a ∧ CellOk K p c a := h.2 i c e
theorem Cells.frz {l : LS} {o : HO} (w : WF p) (ce : Cells K p l) (h : p.H a = none) : Cells K (p.frz a o) l := by
  refine ⟨ce.1, fun i c e => ?_⟩
  obtain ⟨b, h1, h2⟩ := ce.2 i c e
  have nb : b ≠ a := fun z => w.nrho h (by rw [← z]; exact List.mem_of_getElem? h1)
  refine ⟨b, h1, h2.mono (ext_frz h) (by show upd _ _ _ _ = _; rw [upd_ne nb]) fun z => ?_⟩
  rcases z with z | z
  · exact z
  · exact absurd z nb
theorem Cells.new {l : LS} {o : HO} {c : Cell} (w : WF p) (ce : Cells K p l) (h : p.H a = none) (hc : CellOk K (p.new a o) c a) : Cells K (p.new a o) (l ++ [c]) := by
  refine ⟨by simp [ce.1], fun i d e => ?_⟩
  by_cases hi : i < l.length
  · rw [List.getElem?_append_left hi] at e
    obtain ⟨b, h1, h2⟩ := ce.2 i d e
    have nb : b ≠ a := fun z => w.nrho h (by rw [← z]; exact List.mem_of_getElem? h1)
    refine ⟨b, ?_, h2.mono (ext_new h) (by show upd _ _ _ _ = _; rw [upd_ne nb]) fun z => z⟩
    show (p.rho ++ [a])[i]? = _
    rw [List.getElem?_append_left (by rw [← ce.1]; exact hi)]
    exact h1
  · have hi' : i = l.length := by
      have := (List.getElem?_eq_some_iff.mp e).1
      simp at this
      omega
    subst hi'
    rw [List.getElem?_append_right (Nat.le_refl _)] at e
    simp at e
    subst e
    refine ⟨a, ?_, hc⟩
    show (p.rho ++ [a])[l.length]? = _
    rw [ce.1, List.getElem?_append_right (Nat.le_refl _)]
    simp
theorem nodup_at {xs : List Addr} (nd : xs.Nodup) {i j : Nat} {a : Addr} (h : xs[i]? = some a) (h' : xs[j]? = some a) : i = j := by
  obtain ⟨h1, e1⟩ := List.getElem?_eq_some_iff.mp h
  obtain ⟨h2, e2⟩ := List.getElem?_eq_some_iff.mp h'
  exact (List.getElem_inj nd).mp (e1.trans e2.symm)
theorem Cells.put {l : LS} {o : HO} {c : Cell} {i : Nat} (w : WF p) (ce : Cells K p l) (hi : p.rho[i]? = some a) (nf : ¬ p.F a) (hc : CellOk K (p.put a o) c a) : Cells K (p.put a o) (l.set i c) := by
  refine ⟨by simp [ce.1], fun j d e => ?_⟩
  by_cases hj : i = j
  · subst hj
    have hl : i < l.length := by
      have := (List.getElem?_eq_some_iff.mp e).1
      simpa using this
    rw [List.getElem?_set_self hl] at e
    cases e
    exact ⟨a, hi, hc⟩
  · rw [List.getElem?_set_ne hj] at e
    obtain ⟨b, h1, h2⟩ := ce.2 j d e
    have nb : b ≠ a := fun z => hj (nodup_at w.nd hi (by rw [← z]; exact h1))
    exact ⟨b, h1, h2.mono (ext_put (List.mem_of_getElem? hi) nf) (by show upd _ _ _ _ = _; rw [upd_ne nb]) fun z => z⟩
theorem Cells.ice {l : LS} {xs : List D} {i : Nat} (w : WF p) (ce : Cells K p l) (hi : p.rho[i]? = some a) (e : l[i]? = some (.lst xs)) : Cells K (p.ice a) (l.set i (.frz xs)) ∧ RD K (p.ice a) (.lst xs) (.ref a) := by
  have hr := List.mem_of_getElem? hi
  have ex := ext_ice hr
  obtain ⟨b, h1, nf, vs, h2, h3⟩ := ce.2 i _ e
  rw [hi] at h1
  cases h1
  have la : LstAt (p.ice a) a vs := ⟨.inr rfl, h2⟩
  refine ⟨⟨by simp [ce.1], fun j d e' => ?_⟩, .lst la (h3.mono ex.hf)⟩
  by_cases hj : i = j
  · subst hj
    have hl : i < l.length := (List.getElem?_eq_some_iff.mp e).1
    rw [List.getElem?_set_self hl] at e'
    cases e'
    exact ⟨a, hi, vs, la, h3.mono ex.hf⟩
  · rw [List.getElem?_set_ne hj] at e'
    obtain ⟨b, h1, h2⟩ := ce.2 j d e'
    have nb : b ≠ a := fun z => hj (nodup_at w.nd hi (by rw [← z]; exact h1))
    refine ⟨b, h1, h2.mono ex rfl fun z => ?_⟩
    rcases z with z | z
    · exact z
    · exact absurd z nb
end
end QL
set_option Elab.async false
set_option linter.all false
set_option maxRecDepth 100000
set_option maxHeartbeats 4000000
/-! QL2: the judgements over plain data, names, constants, operators, tests, blocks. -/
namespace QL
open PySem L2

abbrev EK := Ex → LS → Prop
abbrev WE := SS → LS → (P → LS → Prop) → EK → Prop
abbrev WT := SS → LS → (Bool → LS → Prop) → EK → Prop
abbrev WA := SS → LS → (List P → LS → Prop) → EK → Prop
structure ED where
  nx : SS → LS → Prop
  rt : P → LS → Prop
  bk : SS → LS → Prop
  ct : SS → LS → Prop
  ex : Ex → SS → LS → Prop
abbrev WS := ED → SS → LS → Prop
abbrev WG := P → SS → LS → (SS → LS → Prop) → Prop
abbrev WGs := List D → SS → LS → (SS → LS → Prop) → Prop

section
variable (K : PySem.W.Frag) (W : WX)
def LinkE (p : Pt) (σ : St) (σd : SS) (E : EK) : Prop := ∀ ex l' cls d p', Ext p p' → Rel K p' σ σd l' → XR K p' ex cls d → E ex l' → W cls d σ p'.H
def cE (w : WE) : TE := fun σ H Q => ∃ (p : Pt) (σd : SS) (l : LS) (Qd : P → LS → Prop) (Ed : EK), p.H = H ∧ Rel K p σ σd l ∧ w σd l Qd Ed ∧
  (∀ d l' v p', Ext p p' → Rel K p' σ σd l' → RP K p' d v → Qd d l' → Q v p'.H) ∧ LinkE K W p σ σd Ed
def cT (w : WT) : TT := fun σ H Q => ∃ (p : Pt) (σd : SS) (l : LS) (Qd : Bool → LS → Prop) (Ed : EK), p.H = H ∧ Rel K p σ σd l ∧ w σd l Qd Ed ∧
  (∀ b l' p', Ext p p' → Rel K p' σ σd l' → Qd b l' → Q b p'.H) ∧ LinkE K W p σ σd Ed
def RPs (p : Pt) : List P → List V → Prop := Paired (RP K p)
def cA (w : WA) : TA := fun σ H Q => ∃ (p : Pt) (σd : SS) (l : LS) (Qd : List P → LS → Prop) (Ed : EK), p.H = H ∧ Rel K p σ σd l ∧ w σd l Qd Ed ∧
  (∀ ds l' vs p', Ext p p' → Rel K p' σ σd l' → RPs K p' ds vs → Qd ds l' → Q vs p'.H) ∧ LinkE K W p σ σd Ed
structure EndsR (p : Pt) (D : Ends) (Dd : ED) : Prop where
  nx : ∀ p' σ' σd' l', Ext p p' → Rel K p' σ' σd' l' → Dd.nx σd' l' → D.nx σ' p'.H
  bk : ∀ p' σ' σd' l', Ext p p' → Rel K p' σ' σd' l' → Dd.bk σd' l' → D.bk σ' p'.H
  ct : ∀ p' σ' σd' l', Ext p p' → Rel K p' σ' σd' l' → Dd.ct σd' l' → D.ct σ' p'.H
  rt : ∀ p' d v l', Ext p p' → WF p' → Cells K p' l' → RP K p' d v → Dd.rt d l' → D.rt v p'.H
  ex : ∀ p' σ' σd' l' ex cls dd, Ext p p' → Rel K p' σ' σd' l' → XR K p' ex cls dd → Dd.ex ex σd' l' → W cls dd σ' p'.H
def cS (w : WS) : TS := fun D σ H => ∃ (p : Pt) (σd : SS) (l : LS) (Dd : ED), p.H = H ∧ Rel K p σ σd l ∧ w Dd σd l ∧ EndsR K W p D Dd
def cG (w : WG) : TG := fun v σ H Q => ∃ (p : Pt) (σd : SS) (l : LS) (d : P) (Qd : SS → LS → Prop), p.H = H ∧ Rel K p σ σd l ∧ RP K p d v ∧ w d σd l Qd ∧
  (∀ p' σ' σd' l', Ext p p' → Rel K p' σ' σd' l' → Qd σd' l' → Q σ' p'.H)
def cGs (w : WGs) : TGs := fun vs σ H Q => ∃ (p : Pt) (σd : SS) (l : LS) (ds : List D) (Qd : SS → LS → Prop), p.H = H ∧ Rel K p σ σd l ∧ RDs K p ds vs ∧ w ds σd l Qd ∧
  (∀ p' σ' σd' l', Ext p p' → Rel K p' σ' σd' l' → Qd σd' l' → Q σ' p'.H)
end
def QE (X : Cx) (W : WX) (e : Expr) (w : WE) : Prop := PE X e (cE X.K W w)
def QT (X : Cx) (W : WX) (e : Expr) (w : WT) : Prop := PT X e (cT X.K W w)
def QW (X : Cx) (W : WX) (e : Expr) (w : WT) : Prop := PW X e (cT X.K W w)
def QA (X : Cx) (W : WX) (es : List Expr) (w : WA) : Prop := PA X es (cA X.K W w)
def QS (X : Cx) (W : WX) (st : Stmt) (w : WS) : Prop := PS X st (cS X.K W w)
def QSs (X : Cx) (W : WX) (st : List Stmt) (w : WS) : Prop := PSs X st (cS X.K W w)
def QG (X : Cx) (tg : Expr) (w : WG) : Prop := PG X tg (cG X.K w)
def QGs (X : Cx) (ts : List Expr) (w : WGs) : Prop := PGs X ts (cGs X.K w)

theorem PE.imp {X : Cx} {e : Expr} {t t' : TE} (h : PE X e t) (k : ∀ σ H Q, t' σ H Q → t σ H Q) : PE X e t' := ⟨fun pins s σ H Q I q => h.run pins s σ H Q I (k σ H Q q)⟩
theorem PT.imp {X : Cx} {e : Expr} {t t' : TT} (h : PT X e t) (k : ∀ σ H Q, t' σ H Q → t σ H Q) : PT X e t' := ⟨fun pins s σ H Q I q => h.run pins s σ H Q I (k σ H Q q)⟩
theorem PW.imp {X : Cx} {e : Expr} {t t' : TT} (h : PW X e t) (k : ∀ σ H Q, t' σ H Q → t σ H Q) : PW X e t' := ⟨fun wh pins s σ H Q I q => h.run wh pins s σ H Q I (k σ H Q q)⟩
theorem PA.imp {X : Cx} {e : List Expr} {t t' : TA} (h : PA X e t) (k : ∀ σ H Q, t' σ H Q → t σ H Q) : PA X e t' := ⟨fun pos pins s σ H Q I q => h.run pos pins s σ H Q I (k σ H Q q)⟩
theorem PS.imp {X : Cx} {e : Stmt} {t t' : TS} (h : PS X e t) (k : ∀ D σ H, t' D σ H → t D σ H) : PS X e t' := ⟨fun pins s σ H D I q => h.run pins s σ H D I (k D σ H q)⟩
theorem PSs.imp {X : Cx} {e : List Stmt} {t t' : TS} (h : PSs X e t) (k : ∀ D σ H, t' D σ H → t D σ H) : PSs X e t' := ⟨fun pins s σ H D I q => h.run pins s σ H D I (k D σ H q)⟩
theorem PG.imp {X : Cx} {e : Expr} {t t' : TG} (h : PG X e t) (k : ∀ v σ H Q, t' v σ H Q → t v σ H Q) : PG X e t' := ⟨fun pins s σ H v u Q I r q => h.run pins s σ H v u Q I r (k v σ H Q q)⟩
theorem PGs.imp {X : Cx} {e : List Expr} {t t' : TGs} (h : PGs X e t) (k : ∀ v σ H Q, t' v σ H Q → t v σ H Q) : PGs X e t' := ⟨fun pins s σ H v u Q I r q => h.run pins s σ H v u Q I r (k v σ H Q q)⟩

section
variable {K : PySem.W.Frag} {W : WX} {p p' : Pt} {σ σ' : St} {σd σd' : SS} {l l' : LS} {H : Hp}
theorem LinkE.mono {E : EK} (h : LinkE K W p σ σd E) (e : Ext p p') : LinkE K W p' σ σd E := fun ex l' cls d p2 e2 r x q => h ex l' cls d p2 (e.trans e2) r x q
theorem EndsR.mono {D : Ends} {Dd : ED} (h : EndsR K W p D Dd) (e : Ext p p') : EndsR K W p' D Dd :=
  ⟨fun p2 a b c f => h.nx p2 a b c (e.trans f), fun p2 a b c f => h.bk p2 a b c (e.trans f), fun p2 a b c f => h.ct p2 a b c (e.trans f), fun p2 a b c f => h.rt p2 a b c (e.trans f), fun p2 a b c d f g x => h.ex p2 a b c d f g (e.trans x)⟩
theorem cE_ok {w : WE} {Q : VK} {Qd : P → LS → Prop} {Ed : EK} (R : Rel K p σ σd l) (hw : w σd l Qd Ed) (lk : LinkE K W p σ σd Ed)
    (k : ∀ d l' v p', Ext p p' → Rel K p' σ σd l' → RP K p' d v → Qd d l' → Q v p'.H) : cE K W w σ p.H Q := ⟨p, σd, l, Qd, Ed, rfl, R, hw, k, lk⟩
theorem cT_ok {w : WT} {Q : Bool → Hp → Prop} {Qd : Bool → LS → Prop} {Ed : EK} (R : Rel K p σ σd l) (hw : w σd l Qd Ed) (lk : LinkE K W p σ σd Ed)
    (k : ∀ b l' p', Ext p p' → Rel K p' σ σd l' → Qd b l' → Q b p'.H) : cT K W w σ p.H Q := ⟨p, σd, l, Qd, Ed, rfl, R, hw, k, lk⟩
theorem cA_ok {w : WA} {Q : List V → Hp → Prop} {Qd : List P → LS → Prop} {Ed : EK} (R : Rel K p σ σd l) (hw : w σd l Qd Ed) (lk : LinkE K W p σ σd Ed)
    (k : ∀ ds l' vs p', Ext p p' → Rel K p' σ σd l' → RPs K p' ds vs → Qd ds l' → Q vs p'.H) : cA K W w σ p.H Q := ⟨p, σd, l, Qd, Ed, rfl, R, hw, k, lk⟩
theorem cS_ok {w : WS} {D : Ends} {Dd : ED} (R : Rel K p σ σd l) (hw : w Dd σd l) (k : EndsR K W p D Dd) : cS K W w D σ p.H := ⟨p, σd, l, Dd, rfl, R, hw, k⟩
theorem cG_ok {w : WG} {d : P} {v : V} {Q : St → Hp → Prop} {Qd : SS → LS → Prop} (R : Rel K p σ σd l) (r : RP K p d v) (hw : w d σd l Qd)
    (k : ∀ p' σ' σd' l', Ext p p' → Rel K p' σ' σd' l' → Qd σd' l' → Q σ' p'.H) : cG K w v σ p.H Q := ⟨p, σd, l, d, Qd, rfl, R, r, hw, k⟩
theorem Rel.ext (R : Rel K p σ σd l) (e : Ext p p') (w : WF p') (c : Cells K p' l') : Rel K p' σ σd l' := ⟨w, R.sl.mono e, c⟩
theorem Rel.set (R : Rel K p σ σd l) {i : Nat} {d : P} {v : V} (r : RP K p d v) : Rel K p (σ.set i (some v)) (σd.set i (some d)) l := ⟨R.wf, R.sl.set r, R.ce⟩
theorem EndsR.link {D : Ends} {Dd : ED} (h : EndsR K W p D Dd) : LinkE K W p σ σd (fun ex l => Dd.ex ex σd l) := fun ex l' cls d p' e r x q => h.ex p' σ σd l' ex cls d e r x q

/-! ### what stands in a sequence -/
def seqOf (l : LS) : P → Option (List D)
  | .d (.tup xs) => some xs
  | .d (.lst xs) => some xs
  | .d (.scr xs) => some xs
  | .loc n => match l[n]? with
    | some (.lst xs) => some xs
    | some (.frz xs) => some xs
    | none => none
  | _ => none
theorem seqOf_ok {x : P} {v : V} {xs : List D} (ce : Cells K p l) (r : RP K p x v) (h : seqOf l x = some xs) : ∃ a vs, v = .ref a ∧ (SqL K p.H a vs ∨ SqT K p.H a vs) ∧ RDs K p xs vs := by
  cases x with
  | d x =>
    cases x with
    | tup ys =>
      cases h
      cases r with
      | tup h1 h2 => exact ⟨_, _, rfl, .inr h1.sq, h2⟩
    | lst ys =>
      cases h
      cases r with
      | lst h1 h2 => exact ⟨_, _, rfl, .inl (LstAt.sq (K := K) h1), h2⟩
    | scr ys =>
      cases h
      cases r with
      | scr h1 h2 => exact ⟨_, _, rfl, .inl h1.sq, h2⟩
    | non => cases h
    | bl _ => cases h
    | int _ => cases h
    | str _ => cases h
    | ty _ => cases h
    | obj _ _ _ => cases h
  | loc n =>
    obtain ⟨a, h1, rfl⟩ := r
    cases e : l[n]? with
    | none => simp [seqOf, e] at h
    | some c =>
      obtain ⟨b, h2, h3⟩ := ce.2 n c e
      rw [h1] at h2
      cases h2
      cases c with
      | lst ys =>
        simp [seqOf, e] at h
        subst h
        obtain ⟨_, vs, h4, h5⟩ := h3
        exact ⟨a, vs, rfl, .inl (.inl (.inl h4)), h5⟩
      | frz ys =>
        simp [seqOf, e] at h
        subst h
        obtain ⟨vs, h4, h5⟩ := h3
        exact ⟨a, vs, rfl, .inl (LstAt.sq (K := K) h4), h5⟩
  | exc _ _ _ _ => cases h
/-- a list, not a tuple; its object itself stands in the heap -/
def lstOf (l : LS) : P → Option (List D)
  | .d (.lst xs) => some xs
  | .loc n => match l[n]? with
    | some (.lst xs) => some xs
    | some (.frz xs) => some xs
    | none => none
  | _ => none
theorem lstOf_ok {x : P} {v : V} {xs : List D} (ce : Cells K p l) (r : RP K p x v) (h : lstOf l x = some xs) : ∃ a vs, v = .ref a ∧ p.H a = some (.lst vs) ∧ RDs K p xs vs := by
  cases x with
  | d x =>
    cases x with
    | lst ys =>
      cases h
      cases r with
      | lst h1 h2 => exact ⟨_, _, rfl, h1.2, h2⟩
    | tup _ => cases h
    | scr _ => cases h
    | non => cases h
    | bl _ => cases h
    | int _ => cases h
    | str _ => cases h
    | ty _ => cases h
    | obj _ _ _ => cases h
  | loc n =>
    obtain ⟨a, h1, rfl⟩ := r
    cases e : l[n]? with
    | none => simp [lstOf, e] at h
    | some c =>
      obtain ⟨b, h2, h3⟩ := ce.2 n c e
      rw [h1] at h2
      cases h2
      cases c with
      | lst ys =>
        simp [lstOf, e] at h
        subst h
        obtain ⟨_, vs, h4, h5⟩ := h3
        exact ⟨a, vs, rfl, h4, h5⟩
      | frz ys =>
        simp [lstOf, e] at h
        subst h
        obtain ⟨vs, h4, h5⟩ := h3
        exact ⟨a, vs, rfl, h4.2, h5⟩
  | exc _ _ _ _ => cases h
theorem lst_seq {x : P} {xs : List D} (h : lstOf l x = some xs) : seqOf l x = some xs := by
  cases x with
  | d x => cases x <;> first | (cases h; rfl) | cases h
  | loc n => exact h
  | exc _ _ _ _ => cases h
end

/-! ### operators by values -/
abbrev OD2 := P → P → LS → (P → LS → Prop) → Prop
abbrev OD1 := P → LS → (P → LS → Prop) → Prop
abbrev ODn := List P → LS → (P → LS → Prop) → Prop
abbrev ODm := P → List P → LS → (P → LS → Prop) → Prop
section
variable (K : PySem.W.Frag)
/-- what is wanted behind an operation at p -/
def After (p : Pt) (Qd : P → LS → Prop) (Q : VK) : Prop := ∀ d l' v p', Ext p p' → WF p' → Cells K p' l' → RP K p' d v → Qd d l' → Q v p'.H
def RefOp (r : R2) (rd : OD2) : Prop := ∀ (p : Pt) (l : LS) (x y : P) (vx vy : V) (Qd : P → LS → Prop) (Q : VK), WF p → Cells K p l → RP K p x vx → RP K p y vy → rd x y l Qd → After K p Qd Q → r vx vy p.H Q
def RefUn (r : V → Hp → VK → Prop) (rd : OD1) : Prop := ∀ (p : Pt) (l : LS) (x : P) (vx : V) (Qd : P → LS → Prop) (Q : VK), WF p → Cells K p l → RP K p x vx → rd x l Qd → After K p Qd Q → r vx p.H Q
def RefCall (r : List V → Hp → VK → Prop) (rd : ODn) : Prop := ∀ (p : Pt) (l : LS) (xs : List P) (vs : List V) (Qd : P → LS → Prop) (Q : VK), WF p → Cells K p l → RPs K p xs vs → rd xs l Qd → After K p Qd Q → r vs p.H Q
end
theorem After.same {K : PySem.W.Frag} {p : Pt} {Qd : P → LS → Prop} {Q : VK} (k : After K p Qd Q) (w : WF p) {l : LS} (c : Cells K p l) {d : P} {v : V} (r : RP K p d v) (q : Qd d l) : Q v p.H := k d l v p (Ext.refl p) w c r q

section
variable {X : Cx} {W : WX} {a b c e o : Expr} {es : List Expr} {wa wb wc we : WE} {wt wt' : WT} {ws : WA} {pos : Pos}
/-! ### names, constants -/
def wVar (i : Nat) (σ : SS) (l : LS) (Q : P → LS → Prop) (_ : EK) : Prop := match σ[i]? with
  | some (some d) => Q d l
  | _ => False
def wC (d : D) (_ : SS) (l : LS) (Q : P → LS → Prop) (_ : EK) : Prop := Q (.d d) l
theorem qe_var (i : Nat) {x : Str} (hN : X.N[i]? = some x := by rfl) (hv : Vis X.env.scope x := by first | exact Or.inl rfl | exact Or.inr (Or.inl rfl) | exact Or.inr (Or.inr rfl)) (hd : (x == ("__debug__" : Str)) = false := by decide)
    (hcd : (x == ("__classdict__" : Str)) = false := by decide) : QE X W (.Name x pos) (wVar i) := PE.imp (pe_var hN hv hd hcd) fun σ H Q ⟨p, σd, l, Qd, Ed, hH, R, hw, k, _⟩ => by
  subst hH
  unfold wVar at hw
  split at hw
  · rename_i d hd
    obtain ⟨v, h1, h2⟩ := R.sl.2 i d hd
    exact ⟨v, h1, k d l v p (Ext.refl p) R h2 hw⟩
  · exact hw.elim
theorem qe_const {v : V} {d : D} (h : PE X e (tC v)) (r : ∀ p, RD X.K p d v) : QE X W e (wC d) := PE.imp h fun σ H Q ⟨p, σd, l, Qd, Ed, hH, R, hw, k, _⟩ => by
  subst hH
  exact k (.d d) l v p (Ext.refl p) R (r p) hw
theorem qe_int {i j} : QE X W (.Constant (.int i) j pos) (wC (.int i)) := qe_const pe_int fun _ => .int i
theorem qe_bl {i j} : QE X W (.Constant (.bool i) j pos) (wC (.bl i)) := qe_const pe_bl fun _ => .bl i
theorem qe_non {j} : QE X W (.Constant .none j pos) (wC .non) := qe_const pe_non fun _ => .non
theorem qe_str {i j} : QE X W (.Constant (.str i) j pos) (wC (.str i)) := qe_const pe_str fun _ => .str i
/-- a constant of the module -/
theorem qe_glob {x : Str} {v : V} {d : D} (hg : Gl X x) (hm : ∃ u, X.mg x = some u ∧ RelV v u) (r : ∀ p, RD X.K p d v) (hd : (x == ("__debug__" : Str)) = false := by decide) : QE X W (.Name x pos) (wC d) := by
  obtain ⟨u, h1, h2⟩ := hm
  exact qe_const (pe_glob hg h1 h2 hd) r
/-- a built-in type as a value -/
theorem qe_type {x : Str} {n : String} (hg : Gl X x) (hm : X.mg x = none) (hv : bootBuiltins x = some (.type n)) (hn : x ≠ "__name__" := by decide) (hd : (x == ("__debug__" : Str)) = false := by decide) : QE X W (.Name x pos) (wC (.ty n)) :=
  qe_const (pe_bltn (v := .ty n) hg hm hv rfl hn hd) fun _ => .ty n

/-! ### operators -/
def kOp2 (rd : OD2) (x : P) (Q : P → LS → Prop) (y : P) (l : LS) : Prop := rd x y l Q
def kOp1 (rd : OD2) (wb : WE) (σ : SS) (Q : P → LS → Prop) (E : EK) (x : P) (l : LS) : Prop := wb σ l (kOp2 rd x Q) E
def wOp (rd : OD2) (wa wb : WE) (σ : SS) (l : LS) (Q : P → LS → Prop) (E : EK) : Prop := wa σ l (kOp1 rd wb σ Q E) E
def kUn (rd : OD1) (Q : P → LS → Prop) (x : P) (l : LS) : Prop := rd x l Q
def wUn (rd : OD1) (wa : WE) (σ : SS) (l : LS) (Q : P → LS → Prop) (E : EK) : Prop := wa σ l (kUn rd Q) E
theorem op_ok {r : R2} {rd : OD2} (hr : RefOp X.K r rd) {σ : St} {H : Hp} {Q : VK} (h : cE X.K W (wOp rd wa wb) σ H Q) : tOp r (cE X.K W wa) (cE X.K W wb) σ H Q := by
  obtain ⟨p, σd, l, Qd, Ed, hH, R, hw, k, lk⟩ := h
  subst hH
  exact cE_ok R hw lk fun x l1 vx p1 e1 R1 r1 q1 => cE_ok R1 q1 (lk.mono e1) fun y l2 vy p2 e2 R2 r2 q2 =>
    hr p2 l2 x y vx vy _ _ R2.wf R2.ce (r1.mono e2) r2 q2 fun d l' v p' e' w' c' r' q' => k d l' v p' ((e1.trans e2).trans e') (R2.ext e' w' c') r' q'
theorem qe_op {op : Operator} {r : R2} {rd : OD2} (ho : OpR X (binaryOp op) r) (hr : RefOp X.K r rd) (ha : QE X W a wa) (hb : QE X W b wb) : QE X W (.BinOp a op b pos) (wOp rd wa wb) :=
  PE.imp (pe_op ho ha hb) fun _ _ _ h => op_ok hr h
theorem qe_cmp {op : CmpOp} {r : R2} {rd : OD2} (ho : OpR X (compareOp op) r) (hr : RefOp X.K r rd) (ha : QE X W a wa) (hb : QE X W b wb) (hm : behindInMarks op b = false) : QE X W (.Compare a [op] [b] pos) (wOp rd wa wb) :=
  PE.imp (pe_cmpR ho ha hb hm) fun _ _ _ h => op_ok hr h
theorem qe_un {op : UnaryOp} {r : V → Hp → VK → Prop} {rd : OD1} (ho : UnR X (unaryOp op) r) (hr : RefUn X.K r rd) (ha : QE X W a wa) : QE X W (.UnaryOp op a pos) (wUn rd wa) :=
  PE.imp (pe_un ho ha) fun σ H Q h => by
    obtain ⟨p, σd, l, Qd, Ed, hH, R, hw, k, lk⟩ := h
    subst hH
    exact cE_ok R hw lk fun x l1 vx p1 e1 R1 r1 q1 => hr p1 l1 x vx _ _ R1.wf R1.ce r1 q1 fun d l' v p' e' w' c' r' q' => k d l' v p' (e1.trans e') (R1.ext e' w' c') r' q'
/-- a test that gives a bool -/
def isB (x : P) (l : LS) (Q : Bool → LS → Prop) : Prop := match x with
  | .d (.bl b) => Q b l
  | _ => False
theorem isB_ok {K : PySem.W.Frag} {p : Pt} {l : LS} {x : P} {v : V} {Q : Bool → LS → Prop} (r : RP K p x v) (h : isB x l Q) : ∃ b, v = .bl b ∧ Q b l := by
  cases x with
  | d x =>
    cases x with
    | bl b => cases r; exact ⟨b, rfl, h⟩
    | _ => cases h
  | loc _ => cases h
  | exc _ _ _ _ => cases h
def kB (Q : Bool → LS → Prop) (x : P) (l : LS) : Prop := isB x l Q
def wB (we : WE) (σ : SS) (l : LS) (Q : Bool → LS → Prop) (E : EK) : Prop := we σ l (kB Q) E
theorem qt_cmp {op : CmpOp} {r : R2} {rd : OD2} (ho : OpR X (compareOp op) r) (hr : RefOp X.K r rd) (ha : QE X W a wa) (hb : QE X W b wb) (hm : behindInMarks op b = false) : QT X W (.Compare a [op] [b] pos) (wB (wOp rd wa wb)) :=
  PT.imp (pt_cmpR ho ha hb hm) fun σ H Q h => by
    obtain ⟨p, σd, l, Qd, Ed, hH, R, hw, k, lk⟩ := h
    subst hH
    exact op_ok (X := X) (W := W) hr (cE_ok R hw lk fun x l1 v p1 e1 R1 r1 q1 => by
      obtain ⟨b, rfl, q⟩ := isB_ok r1 q1
      exact ⟨b, rfl, k b l1 p1 e1 R1 q⟩)
theorem qt_val (h : QE X W e we) (he : ∀ whole, isTrue e X.env whole = (do let v ← whole; standAt e.pos; holding [v] (truthy v)) := by intro _; rfl) : QT X W e (wB we) :=
  PT.imp (pt_val h he) fun σ H Q h => by
    obtain ⟨p, σd, l, Qd, Ed, hH, R, hw, k, lk⟩ := h
    subst hH
    exact cE_ok R hw lk fun x l1 v p1 e1 R1 r1 q1 => by
      obtain ⟨b, rfl, q⟩ := isB_ok r1 q1
      exact ⟨b, rfl, k b l1 p1 e1 R1 q⟩
/-- truth of a value -/
def truD (x : P) (l : LS) (Q : Bool → LS → Prop) : Prop := match seqOf l x with
  | some xs => Q (!xs.isEmpty) l
  | none => match x with
    | .d .non => Q false l
    | .d (.bl b) => Q b l
    | .d (.int i) => Q (i != 0) l
    | .d (.str y) => y.length ≤ sizeLine ∧ Q ((y.length : Int) != 0) l
    | _ => False
theorem RDs.emp {K : PySem.W.Frag} {p : Pt} : ∀ {xs : List D} {vs : List V}, RDs K p xs vs → xs.isEmpty = vs.isEmpty
  | _, _, .nil => rfl
  | _, _, .cons _ _ => rfl
def kTru (Q : Bool → LS → Prop) (x : P) (l : LS) : Prop := truD x l Q
def wTru (we : WE) (σ : SS) (l : LS) (Q : Bool → LS → Prop) (E : EK) : Prop := we σ l (kTru Q) E
theorem qt_truth (h : QE X W e we) (he : ∀ whole, isTrue e X.env whole = (do let v ← whole; standAt e.pos; holding [v] (truthy v)) := by intro _; rfl) : QT X W e (wTru we) :=
  PT.imp (pt_truth h he) fun σ H Q h => by
    obtain ⟨p, σd, l, Qd, Ed, hH, R, hw, k, lk⟩ := h
    subst hH
    exact cE_ok R hw lk fun x l1 v p1 e1 R1 r1 q1 => by
      unfold kTru truD at q1
      split at q1
      · rename_i xs hx
        obtain ⟨a, vs, rfl, hs, hr⟩ := seqOf_ok R1.ce r1 hx
        refine ⟨_, ?_, k _ _ _ e1 R1 q1⟩
        rw [hr.emp]
        rcases hs with hs | hs
        · exact .inl ⟨_, hs, rfl⟩
        · exact .inr (.inl ⟨_, hs, rfl⟩)
      · split at q1
        · cases r1; exact ⟨_, rfl, k _ _ _ e1 R1 q1⟩
        · cases r1; exact ⟨_, rfl, k _ _ _ e1 R1 q1⟩
        · cases r1; exact ⟨_, rfl, k _ _ _ e1 R1 q1⟩
        · cases r1; exact ⟨_, ⟨q1.1, rfl⟩, k _ _ _ e1 R1 q1.2⟩
        · exact q1.elim
def kNot (Q : Bool → LS → Prop) (b : Bool) (l : LS) : Prop := Q (!b) l
def wNot (w : WT) (σ : SS) (l : LS) (Q : Bool → LS → Prop) (E : EK) : Prop := w σ l (kNot Q) E
def kAnd (u : WT) (σ : SS) (Q : Bool → LS → Prop) (E : EK) (b : Bool) (l : LS) : Prop := if b = true then u σ l Q E else Q false l
def wAnd (w u : WT) (σ : SS) (l : LS) (Q : Bool → LS → Prop) (E : EK) : Prop := w σ l (kAnd u σ Q E) E
def kOr (u : WT) (σ : SS) (Q : Bool → LS → Prop) (E : EK) (b : Bool) (l : LS) : Prop := if b = true then Q true l else u σ l Q E
def wOr (w u : WT) (σ : SS) (l : LS) (Q : Bool → LS → Prop) (E : EK) : Prop := w σ l (kOr u σ Q E) E
theorem qt_not (ha : QT X W a wt) : QT X W (.UnaryOp .Not a pos) (wNot wt) := PT.imp (pt_not ha) fun σ H Q h => by
  obtain ⟨p, σd, l, Qd, Ed, hH, R, hw, k, lk⟩ := h
  subst hH
  exact cT_ok R hw lk fun b l1 p1 e1 R1 q1 => k _ l1 p1 e1 R1 q1
theorem QW.qt (h : QW X W e wt) : QT X W e wt := PW.pt h
theorem qw_and1 (ha : QT X W a wt) : QW X W (.BoolOp .And [a] pos) wt := pw_and1 ha
theorem qw_or1 (ha : QT X W a wt) : QW X W (.BoolOp .Or [a] pos) wt := pw_or1 ha
theorem qw_and (ha : QT X W a wt) (hb : QW X W (.BoolOp .And (b :: es) pos) wt') : QW X W (.BoolOp .And (a :: b :: es) pos) (wAnd wt wt') := PW.imp (pw_and ha hb) fun σ H Q h => by
  obtain ⟨p, σd, l, Qd, Ed, hH, R, hw, k, lk⟩ := h
  subst hH
  refine cT_ok R hw lk fun b l1 p1 e1 R1 q1 => ?_
  cases b with
  | true => exact iteT (cT_ok R1 q1 (lk.mono e1) fun b l2 p2 e2 R2 q2 => k _ l2 p2 (e1.trans e2) R2 q2)
  | false => exact iteF (k _ l1 p1 e1 R1 q1)
theorem qw_or (ha : QT X W a wt) (hb : QW X W (.BoolOp .Or (b :: es) pos) wt') : QW X W (.BoolOp .Or (a :: b :: es) pos) (wOr wt wt') := PW.imp (pw_or ha hb) fun σ H Q h => by
  obtain ⟨p, σd, l, Qd, Ed, hH, R, hw, k, lk⟩ := h
  subst hH
  refine cT_ok R hw lk fun b l1 p1 e1 R1 q1 => ?_
  cases b with
  | true => exact iteT (k _ l1 p1 e1 R1 q1)
  | false => exact iteF (cT_ok R1 q1 (lk.mono e1) fun b l2 p2 e2 R2 q2 => k _ l2 p2 (e1.trans e2) R2 q2)
/-- and, or as values: all but the last give bools -/
def kAndV (wb : WE) (σ : SS) (Q : P → LS → Prop) (E : EK) (b : Bool) (l : LS) : Prop := if b = true then wb σ l Q E else Q (.d (.bl false)) l
def wAndV (wa wb : WE) (σ : SS) (l : LS) (Q : P → LS → Prop) (E : EK) : Prop := wa σ l (kB (kAndV wb σ Q E)) E
def kOrV (wb : WE) (σ : SS) (Q : P → LS → Prop) (E : EK) (b : Bool) (l : LS) : Prop := if b = true then Q (.d (.bl true)) l else wb σ l Q E
def wOrV (wa wb : WE) (σ : SS) (l : LS) (Q : P → LS → Prop) (E : EK) : Prop := wa σ l (kB (kOrV wb σ Q E)) E
def kNotV (Q : P → LS → Prop) (b : Bool) (l : LS) : Prop := Q (.d (.bl (!b))) l
def wNotV (wa : WE) (σ : SS) (l : LS) (Q : P → LS → Prop) (E : EK) : Prop := wa σ l (kB (kNotV Q)) E
theorem qe_one {op : BoolOp} (ha : QE X W a wa) : QE X W (.BoolOp op [a] pos) wa := pe_one ha
theorem qe_and (ha : QE X W a wa) (hb : QE X W (.BoolOp .And (b :: es) pos) wb) : QE X W (.BoolOp .And (a :: b :: es) pos) (wAndV wa wb) := PE.imp (pe_and ha hb) fun σ H Q h => by
  obtain ⟨p, σd, l, Qd, Ed, hH, R, hw, k, lk⟩ := h
  subst hH
  refine cE_ok R hw lk fun x l1 v p1 e1 R1 r1 q1 => ?_
  obtain ⟨b, rfl, q⟩ := isB_ok r1 q1
  refine ⟨b, rfl, ?_⟩
  cases b with
  | true => exact iteT (cE_ok R1 q (lk.mono e1) fun y l2 v2 p2 e2 R2 r2 q2 => k _ l2 v2 p2 (e1.trans e2) R2 r2 q2)
  | false => exact iteF (k (.d (.bl _)) l1 _ p1 e1 R1 (RD.bl _) q)
theorem qe_or (ha : QE X W a wa) (hb : QE X W (.BoolOp .Or (b :: es) pos) wb) : QE X W (.BoolOp .Or (a :: b :: es) pos) (wOrV wa wb) := PE.imp (pe_or ha hb) fun σ H Q h => by
  obtain ⟨p, σd, l, Qd, Ed, hH, R, hw, k, lk⟩ := h
  subst hH
  refine cE_ok R hw lk fun x l1 v p1 e1 R1 r1 q1 => ?_
  obtain ⟨b, rfl, q⟩ := isB_ok r1 q1
  refine ⟨b, rfl, ?_⟩
  cases b with
  | true => exact iteT (k (.d (.bl _)) l1 _ p1 e1 R1 (RD.bl _) q)
  | false => exact iteF (cE_ok R1 q (lk.mono e1) fun y l2 v2 p2 e2 R2 r2 q2 => k _ l2 v2 p2 (e1.trans e2) R2 r2 q2)
theorem qe_not (ha : QE X W a wa) : QE X W (.UnaryOp .Not a pos) (wNotV wa) := PE.imp (pe_not ha) fun σ H Q h => by
  obtain ⟨p, σd, l, Qd, Ed, hH, R, hw, k, lk⟩ := h
  subst hH
  refine cE_ok R hw lk fun x l1 v p1 e1 R1 r1 q1 => ?_
  obtain ⟨b, rfl, q⟩ := isB_ok r1 q1
  exact ⟨b, rfl, k (.d (.bl _)) l1 _ p1 e1 R1 (RD.bl _) q⟩
def kIfE (wa wb : WE) (σ : SS) (Q : P → LS → Prop) (E : EK) (b : Bool) (l : LS) : Prop := if b = true then wa σ l Q E else wb σ l Q E
def wIfE (wt : WT) (wa wb : WE) (σ : SS) (l : LS) (Q : P → LS → Prop) (E : EK) : Prop := wt σ l (kIfE wa wb σ Q E) E
theorem qe_ifE (hc : QT X W c wt) (ha : QE X W a wa) (hb : QE X W b wb) : QE X W (.IfExp c a b pos) (wIfE wt wa wb) := PE.imp (pe_ifExp hc ha hb) fun σ H Q h => by
  obtain ⟨p, σd, l, Qd, Ed, hH, R, hw, k, lk⟩ := h
  subst hH
  refine cT_ok R hw lk fun b l1 p1 e1 R1 q1 => ?_
  cases b with
  | true => exact iteT (cE_ok R1 q1 (lk.mono e1) fun y l2 v2 p2 e2 R2 r2 q2 => k _ l2 v2 p2 (e1.trans e2) R2 r2 q2)
  | false => exact iteF (cE_ok R1 q1 (lk.mono e1) fun y l2 v2 p2 e2 R2 r2 q2 => k _ l2 v2 p2 (e1.trans e2) R2 r2 q2)
/-- a < b < c -/
def kCh3 (rd' : OD2) (wc : WE) (σ : SS) (y : P) (Q : P → LS → Prop) (E : EK) (b : Bool) (l : LS) : Prop := if b = true then wc σ l (kOp2 rd' y Q) E else Q (.d (.bl false)) l
def kCh2 (rd rd' : OD2) (wc : WE) (σ : SS) (x : P) (Q : P → LS → Prop) (E : EK) (y : P) (l : LS) : Prop := rd x y l (kB (kCh3 rd' wc σ y Q E))
def kCh1 (rd rd' : OD2) (wb wc : WE) (σ : SS) (Q : P → LS → Prop) (E : EK) (x : P) (l : LS) : Prop := wb σ l (kCh2 rd rd' wc σ x Q E) E
def wChain (rd rd' : OD2) (wa wb wc : WE) (σ : SS) (l : LS) (Q : P → LS → Prop) (E : EK) : Prop := wa σ l (kCh1 rd rd' wb wc σ Q E) E
theorem chain_ok {r r' : R2} {rd rd' : OD2} (hr : RefOp X.K r rd) (hr' : RefOp X.K r' rd') {σ : St} {H : Hp} {Q : VK} (h : cE X.K W (wChain rd rd' wa wb wc) σ H Q) : tChain r r' (cE X.K W wa) (cE X.K W wb) (cE X.K W wc) σ H Q := by
  obtain ⟨p, σd, l, Qd, Ed, hH, R, hw, k, lk⟩ := h
  subst hH
  refine cE_ok R hw lk fun x l1 vx p1 e1 R1 r1 q1 => cE_ok R1 q1 (lk.mono e1) fun y l2 vy p2 e2 R2 r2 q2 =>
    hr p2 l2 x y vx vy _ _ R2.wf R2.ce (r1.mono e2) r2 q2 fun d l3 v p3 e3 w3 c3 r3 q3 => ?_
  obtain ⟨b, rfl, q⟩ := isB_ok r3 q3
  have R3 := R2.ext e3 w3 c3
  refine ⟨b, rfl, ?_⟩
  cases b with
  | true => exact iteT (cE_ok R3 q (lk.mono ((e1.trans e2).trans e3)) fun z l4 vz p4 e4 R4 r4 q4 =>
      hr' p4 l4 y z vy vz _ _ R4.wf R4.ce (r2.mono (e3.trans e4)) r4 q4 fun d l5 v p5 e5 w5 c5 r5 q5 => k d l5 v p5 ((((e1.trans e2).trans e3).trans e4).trans e5) (R4.ext e5 w5 c5) r5 q5)
  | false => exact iteF (k (.d (.bl _)) l3 _ p3 ((e1.trans e2).trans e3) R3 (RD.bl _) q)
theorem qe_chain {op op' : CmpOp} {r r' : R2} {rd rd' : OD2} (ho : OpR X (compareOp op) r) (hr : RefOp X.K r rd) (ho' : OpR X (compareOp op') r') (hr' : RefOp X.K r' rd') (ha : QE X W a wa) (hb : QE X W b wb) (hc : QE X W c wc)
    (hm : lastMarks [op, op'] [b, c] = false := by with_unfolding_all rfl) : QE X W (.Compare a [op, op'] [b, c] pos) (wChain rd rd' wa wb wc) := PE.imp (pe_chain ho ho' ha hb hc hm) fun _ _ _ h => chain_ok hr hr' h
theorem qt_chain {op op' : CmpOp} {r r' : R2} {rd rd' : OD2} (ho : OpR X (compareOp op) r) (hr : RefOp X.K r rd) (ho' : OpR X (compareOp op') r') (hr' : RefOp X.K r' rd') (ha : QE X W a wa) (hb : QE X W b wb) (hc : QE X W c wc)
    (hm : lastMarks [op, op'] [b, c] = false := by with_unfolding_all rfl) : QT X W (.Compare a [op, op'] [b, c] pos) (wB (wChain rd rd' wa wb wc)) := PT.imp (pt_chain ho ho' ha hb hc hm) fun σ H Q h => by
  obtain ⟨p, σd, l, Qd, Ed, hH, R, hw, k, lk⟩ := h
  subst hH
  exact chain_ok (X := X) (W := W) hr hr' (cE_ok R hw lk fun x l1 v p1 e1 R1 r1 q1 => by
    obtain ⟨b, rfl, q⟩ := isB_ok r1 q1
    exact ⟨b, rfl, k b l1 p1 e1 R1 q⟩)

/-! ### arguments -/
def wNil (_ : SS) (l : LS) (Q : List P → LS → Prop) (_ : EK) : Prop := Q [] l
def kC2 (x : P) (Q : List P → LS → Prop) (xs : List P) (l : LS) : Prop := Q (x :: xs) l
def kC1 (ws : WA) (σ : SS) (Q : List P → LS → Prop) (E : EK) (x : P) (l : LS) : Prop := ws σ l (kC2 x Q) E
def wCons (we : WE) (ws : WA) (σ : SS) (l : LS) (Q : List P → LS → Prop) (E : EK) : Prop := we σ l (kC1 ws σ Q E) E
theorem qa_nil : QA X W [] wNil := PA.imp pa_nil fun σ H Q ⟨p, σd, l, Qd, Ed, hH, R, hw, k, lk⟩ => by
  subst hH
  exact k [] l [] p (Ext.refl p) R .nil hw
theorem qa_cons (ha : QE X W e we) (hr : QA X W es ws) (hs : starEach (e :: es) X.env = (false, eval e X.env) :: starEach es X.env := by rfl) : QA X W (e :: es) (wCons we ws) :=
  PA.imp (pa_cons ha hr hs) fun σ H Q ⟨p, σd, l, Qd, Ed, hH, R, hw, k, lk⟩ => by
    subst hH
    exact cE_ok R hw lk fun x l1 vx p1 e1 R1 r1 q1 => cA_ok R1 q1 (lk.mono e1) fun xs l2 vs p2 e2 R2 r2 q2 => k _ l2 _ p2 (e1.trans e2) R2 (.cons (r1.mono e2) r2) q2
/-- a call of a built-in by name -/
def kCB (rd : ODn) (Q : P → LS → Prop) (xs : List P) (l : LS) : Prop := rd xs l Q
def wCB (rd : ODn) (ws : WA) (σ : SS) (l : LS) (Q : P → LS → Prop) (E : EK) : Prop := ws σ l (kCB rd Q) E
theorem cb_ok {r : List V → Hp → VK → Prop} {rd : ODn} (hr : RefCall X.K r rd) {σ : St} {H : Hp} {Q : VK} (h : cE X.K W (wCB rd ws) σ H Q) : tCB r (cA X.K W ws) σ H Q := by
  obtain ⟨p, σd, l, Qd, Ed, hH, R, hw, k, lk⟩ := h
  subst hH
  exact cA_ok R hw lk fun xs l1 vs p1 e1 R1 r1 q1 => hr p1 l1 xs vs _ _ R1.wf R1.ce r1 q1 fun d l' v p' e' w' c' r' q' => k d l' v p' (e1.trans e') (R1.ext e' w' c') r' q'
theorem qe_callB {x : Str} {q : Pos} {id : String} {r : List V → Hp → VK → Prop} {rd : ODn} (hc : CallR X (.builtin id) r) (hr : RefCall X.K r rd) (hg : Gl X x) (hm : X.mg x = none) (hv : bootBuiltins x = some (.builtin id)) (ha : QA X W (e :: es) ws)
    (hn : x ≠ "__name__" := by decide) (hdb : (x == ("__debug__" : Str)) = false := by decide) (he : starEach (e :: es) X.env = (false, eval e X.env) :: starEach es X.env := by rfl) (hpl : (backTo pos (starEach es X.env)).any (·.1) = false := by rfl) :
    QE X W (.Call (.Name x q) (e :: es) [] pos) (wCB rd ws) := PE.imp (pe_callB hc hg hm hv ha hn hdb he hpl) fun _ _ _ h => cb_ok hr h
theorem qe_callTy {x : Str} {q : Pos} {T : String} {r : List V → Hp → VK → Prop} {rd : ODn} (hc : CallR X (.type T) r) (hr : RefCall X.K r rd) (hg : Gl X x) (hm : X.mg x = none) (hv : bootBuiltins x = some (.type T)) (ha : QA X W (e :: es) ws)
    (hn : x ≠ "__name__" := by decide) (hdb : (x == ("__debug__" : Str)) = false := by decide) (he : starEach (e :: es) X.env = (false, eval e X.env) :: starEach es X.env := by rfl) (hpl : (backTo pos (starEach es X.env)).any (·.1) = false := by rfl) :
    QE X W (.Call (.Name x q) (e :: es) [] pos) (wCB rd ws) := PE.imp (pe_callTy hc hg hm hv ha hn hdb he hpl) fun _ _ _ h => cb_ok hr h
end

/-! ### statements -/
section
variable {X : Cx} {W : WX} {st : Stmt} {rest : List Stmt} {w u : WS} {e : Expr} {we : WE} {wt : WT} {pos : Pos}
def wNext (D : ED) (σ : SS) (l : LS) : Prop := D.nx σ l
def wSeq (w u : WS) (D : ED) (σ : SS) (l : LS) : Prop := w { D with nx := u D } σ l
def exK (D : ED) (σ : SS) (ex : Ex) (l : LS) : Prop := D.ex ex σ l
theorem EndsR.thn {K : PySem.W.Frag} {p : Pt} {D : Ends} {Dd : ED} (k : EndsR K W p D Dd) : EndsR K W p { D with nx := cS K W u D } { Dd with nx := u Dd } :=
  ⟨fun p' σ' σd' l' e R q => cS_ok R q (k.mono e), k.bk, k.ct, k.rt, k.ex⟩
theorem qss_nil : QSs X W [] wNext := PSs.imp pss_nil fun D σ H ⟨p, σd, l, Dd, hH, R, hw, k⟩ => by
  subst hH
  exact k.nx p σ σd l (Ext.refl p) R hw
theorem qss_cons (h1 : QS X W st w) (h2 : QSs X W rest u) : QSs X W (st :: rest) (wSeq w u) := PSs.imp (pss_cons h1 h2) fun D σ H ⟨p, σd, l, Dd, hH, R, hw, k⟩ => by
  subst hH
  exact cS_ok R hw k.thn
theorem qss_one (h1 : QS X W st w) : QSs X W [st] w := pss_one h1
theorem qs_pass : QS X W (.Pass pos) wNext := PS.imp ps_pass fun D σ H ⟨p, σd, l, Dd, hH, R, hw, k⟩ => by
  subst hH
  exact k.nx p σ σd l (Ext.refl p) R hw
def wBreak (D : ED) (σ : SS) (l : LS) : Prop := D.bk σ l
def wCont (D : ED) (σ : SS) (l : LS) : Prop := D.ct σ l
theorem qs_break : QS X W (.Break pos) wBreak := PS.imp ps_break fun D σ H ⟨p, σd, l, Dd, hH, R, hw, k⟩ => by
  subst hH
  exact k.bk p σ σd l (Ext.refl p) R hw
theorem qs_continue : QS X W (.Continue pos) wCont := PS.imp ps_continue fun D σ H ⟨p, σd, l, Dd, hH, R, hw, k⟩ => by
  subst hH
  exact k.ct p σ σd l (Ext.refl p) R hw
theorem qs_doc {x j pos'} : QS X W (.Expr (.Constant (.str x) j pos) pos') wNext := PS.imp ps_doc fun D σ H ⟨p, σd, l, Dd, hH, R, hw, k⟩ => by
  subst hH
  exact k.nx p σ σd l (Ext.refl p) R hw
def kDrop (D : ED) (σ : SS) (_ : P) (l : LS) : Prop := D.nx σ l
def wDrop (we : WE) (D : ED) (σ : SS) (l : LS) : Prop := we σ l (kDrop D σ) (exK D σ)
theorem qs_expr (he : QE X W e we) (hs : swapsWith e none pos.line X.env = pure false := by rfl) : QS X W (.Expr e pos) (wDrop we) := PS.imp (ps_expr he hs) fun D σ H ⟨p, σd, l, Dd, hH, R, hw, k⟩ => by
  subst hH
  exact cE_ok R hw k.link fun x l1 v p1 e1 R1 r1 q1 => k.nx p1 σ σd l1 e1 R1 q1
def wRet (we : WE) (D : ED) (σ : SS) (l : LS) : Prop := we σ l D.rt (exK D σ)
theorem qs_ret (he : QE X W e we) : QS X W (.Return (some e) pos) (wRet we) := PS.imp (ps_ret he) fun D σ H ⟨p, σd, l, Dd, hH, R, hw, k⟩ => by
  subst hH
  exact cE_ok R hw k.link fun x l1 v p1 e1 R1 r1 q1 => k.rt p1 x v l1 e1 R1.wf R1.ce r1 q1
def wRetN (D : ED) (_ : SS) (l : LS) : Prop := D.rt (.d .non) l
theorem qs_retN : QS X W (.Return none pos) wRetN := PS.imp ps_retN fun D σ H ⟨p, σd, l, Dd, hH, R, hw, k⟩ => by
  subst hH
  exact k.rt p (.d .non) _ l (Ext.refl p) R.wf R.ce RD.non hw
def kIf (w u : WS) (D : ED) (σ : SS) (b : Bool) (l : LS) : Prop := if b = true then w D σ l else u D σ l
def wIf (wt : WT) (w u : WS) (D : ED) (σ : SS) (l : LS) : Prop := wt σ l (kIf w u D σ) (exK D σ)
theorem qs_if {c : Expr} {a b : List Stmt} (hc : QT X W c wt) (ha : QSs X W a w) (hb : QSs X W b u) : QS X W (.If c a b pos) (wIf wt w u) := PS.imp (ps_if hc ha hb) fun D σ H ⟨p, σd, l, Dd, hH, R, hw, k⟩ => by
  subst hH
  refine cT_ok R hw k.link fun b l1 p1 e1 R1 q1 => ?_
  cases b with
  | true => exact iteT (cS_ok R1 q1 (k.mono e1))
  | false => exact iteF (cS_ok R1 q1 (k.mono e1))
/-! ### targets -/
def gN (i : Nat) (d : P) (σ : SS) (l : LS) (Q : SS → LS → Prop) : Prop := Q (σ.set i (some d)) l
theorem qg_name {i : Nat} {x : Str} (hN : X.N.Nodup) (hi : X.N[i]? = some x) (hx : Loc X.env.scope x) (hf : X.fn x = true ∨ X.env.scope.names.lookup x = some .local := by first | exact .inl rfl | exact .inr rfl | assumption) : QG X (.Name x pos) (gN i) :=
  PG.imp (pg_name hN hi hx hf) fun v σ H Q ⟨p, σd, l, d, Qd, hH, R, r, hw, k⟩ => by
    subst hH
    exact k p _ _ l (Ext.refl p) (R.set r) hw
def gE (ds : List D) (σ : SS) (l : LS) (Q : SS → LS → Prop) : Prop := match ds with
  | [] => Q σ l
  | _ => False
def kG (gs : WGs) (ds : List D) (Q : SS → LS → Prop) (σ : SS) (l : LS) : Prop := gs ds σ l Q
def gC (g : WG) (gs : WGs) (ds : List D) (σ : SS) (l : LS) (Q : SS → LS → Prop) : Prop := match ds with
  | d :: ds => g (.d d) σ l (kG gs ds Q)
  | [] => False
theorem qgs_nil : QGs X [] gE := PGs.imp pgs_nil fun vs σ H Q ⟨p, σd, l, ds, Qd, hH, R, r, hw, k⟩ => by
  subst hH
  cases r with
  | nil => exact ⟨rfl, k p _ _ l (Ext.refl p) R hw⟩
  | cons _ _ => cases hw
theorem qgs_cons {es : List Expr} {g : WG} {gs : WGs} (h1 : QG X e g) (h2 : QGs X es gs) (hs : (assignEach (e :: es) X.env).map (·.2) = assign e X.env :: (assignEach es X.env).map (·.2) := by rfl) : QGs X (e :: es) (gC g gs) :=
  PGs.imp (pgs_cons h1 h2 hs) fun vs σ H Q ⟨p, σd, l, ds, Qd, hH, R, r, hw, k⟩ => by
    subst hH
    cases r with
    | nil => cases hw
    | cons h r => exact ⟨_, _, rfl, cG_ok R (d := .d _) h hw fun p1 σ1 σd1 l1 e1 R1 q1 => ⟨p1, σd1, l1, _, _, rfl, R1, r.mono e1.hf, q1, fun p2 σ2 σd2 l2 e2 R2 q2 => k p2 σ2 σd2 l2 (e1.trans e2) R2 q2⟩⟩
def gT (n : Nat) (gs : WGs) (d : P) (σ : SS) (l : LS) (Q : SS → LS → Prop) : Prop := match d with
  | .d (.tup ds) => ds.length = n ∧ gs ds σ l Q
  | _ => False
theorem qg_tup {es : List Expr} {k : Nat} {gs : WGs} {n : Nat} (hc : X.calm = true) (h : QGs X es gs) (hn : (assignEach es X.env).length = n := by rfl) (hst : (assignEach es X.env).findIdx? (·.1) = none := by rfl) : QG X (.Tuple es k pos) (gT n gs) :=
  PG.imp (pg_tup hc h hn hst) fun v σ H Q ⟨p, σd, l, d, Qd, hH, R, r, hw, k⟩ => by
    subst hH
    cases d with
    | d d =>
      cases d with
      | tup ds =>
        cases r with
        | tup h1 h2 => exact ⟨_, _, rfl, h1.sq, h2.len.symm.trans hw.1, p, σd, l, ds, Qd, rfl, R, h2, hw.2, k⟩
      | _ => cases hw
    | _ => cases hw
def kAsg (g : WG) (σ : SS) (D : ED) (x : P) (l : LS) : Prop := g x σ l D.nx
def wAsg (we : WE) (g : WG) (D : ED) (σ : SS) (l : LS) : Prop := we σ l (kAsg g σ D) (exK D σ)
theorem asg_ok {g : WG} {D : Ends} {σ : St} {H : Hp} (h : cS X.K W (wAsg we g) D σ H) : tAsg (cE X.K W we) (cG X.K g) D σ H := by
  obtain ⟨p, σd, l, Dd, hH, R, hw, k⟩ := h
  subst hH
  exact cE_ok R hw k.link fun x l1 v p1 e1 R1 r1 q1 => cG_ok R1 r1 q1 fun p2 σ2 σd2 l2 e2 R2 q2 => k.nx p2 σ2 σd2 l2 (e1.trans e2) R2 q2
theorem qs_asg {tg : Expr} {g : WG} (he : QE X W e we) (hg : QG X tg g) (hs : swapsWithSole [tg] e pos.line X.env = pure false := by rfl) (hw : swappedStores [tg] e X.env = pure none := by rfl)
    (h1 : (assignEach [tg] X.env).map (·.2) = [assign tg X.env] := by rfl) : QS X W (.Assign [tg] e pos) (wAsg we g) := PS.imp (ps_asg he hg hs hw h1) fun _ _ _ h => asg_ok h
theorem qs_set {i : Nat} {x : Str} {pos' : Pos} (hN : X.N.Nodup) (hi : X.N[i]? = some x) (hx : Loc X.env.scope x) (he : QE X W e we) (hs : swapsWith e (some (.Name x pos')) pos.line X.env = pure false := by rfl)
    (hf : X.fn x = true ∨ X.env.scope.names.lookup x = some .local := by first | exact .inl rfl | exact .inr rfl | assumption) : QS X W (.Assign [.Name x pos'] e pos) (wAsg we (gN i)) :=
  PS.imp (ps_set hN hi hx he hs hf) fun D σ H h => by
    obtain ⟨p, σd, l, Dd, hH, R, hw, k⟩ := h
    subst hH
    exact cE_ok R hw k.link fun x l1 v p1 e1 R1 r1 q1 => k.nx p1 _ _ l1 e1 (R1.set r1) q1
/-- x op= e of values that are never changed in place -/
def kAug2 (i : Nat) (D : ED) (σ : SS) (z : P) (l : LS) : Prop := D.nx (σ.set i (some z)) l
def kAug1 (i : Nat) (rd : OD2) (D : ED) (σ : SS) (x y : P) (l : LS) : Prop := rd x y l (kAug2 i D σ)
def wAug (i : Nat) (rd : OD2) (we : WE) (D : ED) (σ : SS) (l : LS) : Prop := match σ[i]? with
  | some (some x) => we σ l (kAug1 i rd D σ x) (exK D σ)
  | _ => False
theorem qs_aug {i : Nat} {x : Str} {op : Operator} {ti : TIp} {rd : OD2} {pos' : Pos} (hN : X.N.Nodup) (hi : X.N[i]? = some x) (hx : Loc X.env.scope x) (he : QE X W e we) (ho : PIp X op ti) (hr : RefOp X.K ti rd)
    (hf : X.fn x = true ∨ X.env.scope.names.lookup x = some .local := by first | exact .inl rfl | exact .inr rfl | assumption) : QS X W (.AugAssign (.Name x pos') op e pos) (wAug i rd we) :=
  PS.imp (ps_aug hN hi hx he ho hf) fun D σ H h => by
    obtain ⟨p, σd, l, Dd, hH, R, hw, k⟩ := h
    subst hH
    unfold wAug at hw
    split at hw
    · rename_i d hd
      obtain ⟨v, h1, h2⟩ := R.sl.2 i d hd
      exact ⟨v, h1, cE_ok R hw k.link fun y l1 vy p1 e1 R1 r1 q1 => hr p1 l1 d y v vy _ _ R1.wf R1.ce (h2.mono e1) r1 q1 fun d' l' v' p' e' w' c' r' q' => k.nx p' _ _ l' (e1.trans e') ((R1.ext e' w' c').set r') q'⟩
    · exact hw.elim
end
end QL
set_option Elab.async false
set_option linter.all false
set_option maxRecDepth 100000
set_option maxHeartbeats 4000000
/-! QL3: operators, built-ins, displays, subscripts, methods, over plain data. -/
namespace QL
open PySem L2

section
variable {K : PySem.W.Frag} {p : Pt} {l : LS}
theorem RPs.one {x : P} {vs : List V} (h : RPs K p [x] vs) : ∃ v, vs = [v] ∧ RP K p x v := by
  cases h with
  | cons r t => cases t; exact ⟨_, rfl, r⟩
theorem RPs.two {x y : P} {vs : List V} (h : RPs K p [x, y] vs) : ∃ v w, vs = [v, w] ∧ RP K p x v ∧ RP K p y w := by
  cases h with
  | cons r t =>
    obtain ⟨w, rfl, r2⟩ := RPs.one t
    exact ⟨_, w, rfl, r, r2⟩
/-- a new list, tuple -/
theorem After.newT {Qd : P → LS → Prop} {Q : VK} (k : After K p Qd Q) (w : WF p) (ce : Cells K p l) {xs : List D} {vs : List V} (r : RDs K p xs vs) (q : Qd (.d (.tup xs)) l) : ∀ a, p.H a = none → Q (.ref a) (upd p.H a (.tup vs)) := fun a ha =>
  k _ l _ (p.frz a (.tup vs)) (ext_frz ha) (wf_frz w) (Cells.frz w ce ha) (show RP K (p.frz a (.tup vs)) (.d (.tup xs)) (.ref a) from RD.tup (Or.inl ⟨Or.inr rfl, Or.inl upd_same⟩) (r.mono (ext_frz ha).hf)) q
theorem After.newL {Qd : P → LS → Prop} {Q : VK} (k : After K p Qd Q) (w : WF p) (ce : Cells K p l) {xs : List D} {vs : List V} (r : RDs K p xs vs) (q : Qd (.d (.lst xs)) l) : ∀ a, p.H a = none → Q (.ref a) (upd p.H a (.lst vs)) := fun a ha =>
  k _ l _ (p.frz a (.lst vs)) (ext_frz ha) (wf_frz w) (Cells.frz w ce ha) (show RP K (p.frz a (.lst vs)) (.d (.lst xs)) (.ref a) from RD.lst ⟨Or.inr rfl, upd_same⟩ (r.mono (ext_frz ha).hf)) q
/-- a new list that may change -/
theorem After.newC {Qd : P → LS → Prop} {Q : VK} (k : After K p Qd Q) (w : WF p) (ce : Cells K p l) {xs : List D} {vs : List V} (r : RDs K p xs vs) (q : Qd (.loc l.length) (l ++ [.lst xs])) : ∀ a, p.H a = none → Q (.ref a) (upd p.H a (.lst vs)) := fun a ha =>
  k (.loc l.length) (l ++ [.lst xs]) (.ref a) (p.new a (.lst vs)) (ext_new ha) (wf_new w ha) (Cells.new w ce ha (show CellOk K (p.new a (.lst vs)) (.lst xs) a from ⟨fun z => w.nF ha z, vs, upd_same, r.mono (ext_new ha).hf⟩))
    (show RP K (p.new a (.lst vs)) (.loc l.length) (.ref a) from ⟨a, by
      show (p.rho ++ [a])[l.length]? = some a
      rw [ce.1, List.getElem?_append_right (Nat.le_refl _)]
      simp, rfl⟩) q
/-- what becomes of a new list: it stays as it is, or it is a cell -/
inductive Fresh where | frz | cell
def freshL (f : Fresh) (xs : List D) (l : LS) (Q : P → LS → Prop) : Prop := match f with
  | .frz => Q (.d (.lst xs)) l
  | .cell => Q (.loc l.length) (l ++ [.lst xs])
theorem After.fresh {Qd : P → LS → Prop} {Q : VK} (k : After K p Qd Q) (w : WF p) (ce : Cells K p l) {xs : List D} {vs : List V} (r : RDs K p xs vs) (f : Fresh) (q : freshL f xs l Qd) : ∀ a, p.H a = none → Q (.ref a) (upd p.H a (.lst vs)) := by
  cases f with
  | frz => exact k.newL w ce r q
  | cell => exact k.newC w ce r q
/-- ints -/
theorem RDs.ints : ∀ {ns : List Int} {vs : List V}, RDs K p (ns.map .int) vs → vs = ns.map V.int
  | [], _, .nil => rfl
  | n :: ns, _, .cons h r => by
    cases h
    rw [RDs.ints r]
    rfl
theorem RDs.of_ints : ∀ ns : List Int, RDs K p (ns.map .int) (ns.map V.int)
  | [] => .nil
  | n :: ns => .cons (.int n) (RDs.of_ints ns)
theorem RDs.bls : ∀ {ns : List Bool} {vs : List V}, RDs K p (ns.map .bl) vs → vs = ns.map V.bl
  | [], _, .nil => rfl
  | n :: ns, _, .cons h r => by
    cases h
    rw [RDs.bls r]
    rfl
end

/-! ### operators -/
def oII (C : Int → Int → Prop) (g : Int → Int → Int) (x y : P) (l : LS) (Q : P → LS → Prop) : Prop := match x, y with
  | .d (.int i), .d (.int j) => C i j ∧ Q (.d (.int (g i j))) l
  | _, _ => False
def oI0 (g : Int → Int → Int) (x y : P) (l : LS) (Q : P → LS → Prop) : Prop := match x, y with
  | .d (.int i), .d (.int j) => Q (.d (.int (g i j))) l
  | _, _ => False
def oB0 (g : Int → Int → Bool) (x y : P) (l : LS) (Q : P → LS → Prop) : Prop := match x, y with
  | .d (.int i), .d (.int j) => Q (.d (.bl (g i j))) l
  | _, _ => False
section
variable {K : PySem.W.Frag}
theorem ref_II {C : Int → Int → Prop} {g : Int → Int → Int} : RefOp K (rI C fun i j => .int (g i j)) (oII C g) := fun p l x y vx vy Qd Q w ce rx ry h k => by
  unfold oII at h
  split at h
  · cases rx; cases ry
    exact ⟨_, _, rfl, rfl, h.1, k.same w ce (d := .d _) (RD.int _) h.2⟩
  · exact h.elim
theorem ref_I0 {g : Int → Int → Int} : RefOp K (rI0 fun i j => .int (g i j)) (oI0 g) := fun p l x y vx vy Qd Q w ce rx ry h k => by
  unfold oI0 at h
  split at h
  · cases rx; cases ry
    exact ⟨_, _, rfl, rfl, k.same w ce (d := .d _) (RD.int _) h⟩
  · exact h.elim
theorem ref_B0 {g : Int → Int → Bool} : RefOp K (rI0 fun i j => .bl (g i j)) (oB0 g) := fun p l x y vx vy Qd Q w ce rx ry h k => by
  unfold oB0 at h
  split at h
  · cases rx; cases ry
    exact ⟨_, _, rfl, rfl, k.same w ce (d := .d _) (RD.bl _) h⟩
  · exact h.elim
theorem ref_ip {g : Int → Int → Int} : RefOp K (ipI g) (oI0 g) := fun p l x y vx vy Qd Q w ce rx ry h k => by
  unfold oI0 at h
  split at h
  · cases rx; cases ry
    exact ⟨_, _, rfl, rfl, k.same w ce (d := .d _) (RD.int _) h⟩
  · exact h.elim
def oU (g : Int → Int) (x : P) (l : LS) (Q : P → LS → Prop) : Prop := match x with
  | .d (.int i) => Q (.d (.int (g i))) l
  | _ => False
theorem ref_U {g : Int → Int} : RefUn K (rU fun i => .int (g i)) (oU g) := fun p l x vx Qd Q w ce rx h k => by
  unfold oU at h
  split at h
  · cases rx
    exact ⟨_, rfl, k.same w ce (d := .d _) (RD.int _) h⟩
  · exact h.elim
/-- is None -/
def isNon : P → Bool
  | .d .non => true
  | _ => false
theorem isNon_ok {p : Pt} {x : P} {v : V} (r : RP K p x v) : decide (v = .non) = isNon x := by
  cases x with
  | d x => cases x <;> cases r <;> simp [isNon]
  | loc _ => obtain ⟨a, _, rfl⟩ := r; simp [isNon]
  | exc _ _ _ _ => obtain ⟨rfl, _⟩ := r; simp [isNon]
def oIs (neg : Bool) (x y : P) (l : LS) (Q : P → LS → Prop) : Prop := match y with
  | .d .non => Q (.d (.bl (if neg then !isNon x else isNon x))) l
  | _ => False
theorem ref_isN : RefOp K (fun x y H Q => y = .non ∧ Q (.bl (decide (x = .non))) H) (oIs false) := fun p l x y vx vy Qd Q w ce rx ry h k => by
  unfold oIs at h
  split at h
  · cases ry
    exact ⟨rfl, k.same w ce (d := .d _) (by rw [isNon_ok rx]; exact RD.bl _) h⟩
  · exact h.elim
theorem ref_notN : RefOp K (fun x y H Q => y = .non ∧ Q (.bl (!decide (x = .non))) H) (oIs true) := fun p l x y vx vy Qd Q w ce rx ry h k => by
  unfold oIs at h
  split at h
  · cases ry
    exact ⟨rfl, k.same w ce (d := .d _) (by rw [isNon_ok rx]; exact RD.bl _) h⟩
  · exact h.elim

/-! ### == of data -/
mutual
def D.py : D → PyData
  | .non => .none
  | .bl b => .bool b
  | .int i => .int i
  | .str x => .str x
  | .tup xs => .tuple (D.pys xs)
  | .lst xs => .list (D.pys xs)
  | .scr xs => .list (D.pys xs)
  | .ty _ => .none
  | .obj _ _ _ => .none
def D.pys : List D → List PyData
  | [] => []
  | x :: xs => x.py :: D.pys xs
end
/-- data no deeper than n -/
def dOk : Nat → D → Prop
  | _, .non => True
  | _, .bl _ => True
  | _, .int _ => True
  | _, .str x => PyData.strOk x = true
  | n + 1, .tup xs => ∀ x ∈ xs, dOk n x
  | n + 1, .lst xs => ∀ x ∈ xs, dOk n x
  | _, _ => False
def D.eqv (a b : D) : Bool := PyData.eqv a.py b.py
theorem dOk_tup {n : Nat} {xs : List D} : dOk (n + 1) (.tup xs) ↔ ∀ x ∈ xs, dOk n x := by simp only [dOk]
theorem dOk_lst {n : Nat} {xs : List D} : dOk (n + 1) (.lst xs) ↔ ∀ x ∈ xs, dOk n x := by simp only [dOk]
mutual
theorem dOk_sh : ∀ (x : D) (n : Nat), dOk n x → x.py.canLay0 = true ∧ x.py.depth ≤ n
  | .non, n, _ => by simp [D.py, PyData.canLay0, PyData.depth]
  | .bl _, n, _ => by simp [D.py, PyData.canLay0, PyData.depth]
  | .int _, n, _ => by simp [D.py, PyData.canLay0, PyData.depth]
  | .str x, n, h => by
    have h' : PyData.strOk x = true := by cases n <;> exact h
    simp [D.py, PyData.canLay0, PyData.depth, h']
  | .ty _, n, h => by cases n <;> exact h.elim
  | .scr _, n, h => by cases n <;> exact h.elim
  | .obj _ _ _, n, h => by cases n <;> exact h.elim
  | .tup xs, 0, h => h.elim
  | .lst xs, 0, h => h.elim
  | .tup xs, n + 1, h => by
    have q := dOks_sh xs n h
    simp only [D.py, PyData.canLay0, PyData.depth]
    exact ⟨q.1, by omega⟩
  | .lst xs, n + 1, h => by
    have q := dOks_sh xs n h
    simp only [D.py, PyData.canLay0, PyData.depth]
    exact ⟨q.1, by omega⟩
theorem dOks_sh : ∀ (xs : List D) (n : Nat), (∀ x ∈ xs, dOk n x) → PyData.canLayAll0 (D.pys xs) = true ∧ PyData.depthAll (D.pys xs) ≤ n
  | [], n, _ => by simp [D.pys, PyData.canLayAll0, PyData.depthAll]
  | x :: xs, n, h => by
    have h1 := dOk_sh x n (h x List.mem_cons_self)
    have h2 := dOks_sh xs n fun y hy => h y (List.mem_cons_of_mem _ hy)
    simp only [D.pys, PyData.canLayAll0, PyData.depthAll, h1.1, h2.1, Bool.and_self, true_and]
    omega
end
theorem dOk_shaped {x : D} {n : Nat} (h : dOk n x) (hn : n ≤ 64 := by decide) : SeqAt.shaped x.py = true := by
  obtain ⟨h1, h2⟩ := dOk_sh x n h
  simp only [SeqAt.shaped, h1, Bool.true_and, decide_eq_true_eq]
  omega
mutual
theorem RD.dp {p : Pt} : ∀ {x : D} {v : V} {n : Nat}, RD K p x v → dOk n x → Dp K p.H v x.py
  | _, _, _, .non, _ => .non
  | _, _, _, .bl b, _ => .bl b
  | _, _, _, .int i, _ => .int i
  | _, _, _, .str x, _ => .str x
  | _, _, n, .ty _, h => by cases n <;> exact h.elim
  | _, _, n, .scr _ _, h => by cases n <;> exact h.elim
  | _, _, n, .obj _ _ _, h => by cases n <;> exact h.elim
  | _, _, 0, .tup _ _, h => h.elim
  | _, _, 0, .lst _ _, h => h.elim
  | _, _, n + 1, .tup h1 h2, h => .tup h1.sq (RDs.dp h2 h)
  | _, _, n + 1, .lst h1 h2, h => .lst (LstAt.sq (K := K) h1) (RDs.dp h2 h)
theorem RDs.dp {p : Pt} : ∀ {xs : List D} {vs : List V} {n : Nat}, RDs K p xs vs → (∀ x ∈ xs, dOk n x) → DpAll K p.H vs (D.pys xs)
  | _, _, _, .nil, _ => .nil
  | _, _, _, .cons h1 h2, h => .cons (RD.dp h1 (h _ List.mem_cons_self)) (RDs.dp h2 fun y hy => h y (List.mem_cons_of_mem _ hy))
end
/-- a value as data -/
def snap (l : LS) : P → Option D
  | .d x => some x
  | .loc n => match l[n]? with
    | some (.lst xs) => some (.lst xs)
    | some (.frz xs) => some (.lst xs)
    | none => none
  | _ => none
theorem snap_ok {p : Pt} {l : LS} {x : P} {v : V} {d : D} {n : Nat} (ce : Cells K p l) (r : RP K p x v) (h : snap l x = some d) (o : dOk n d) : Dp K p.H v d.py := by
  cases x with
  | d x =>
    cases h
    exact RD.dp r o
  | loc m =>
    obtain ⟨a, h1, rfl⟩ := r
    cases e : l[m]? with
    | none => simp [snap, e] at h
    | some c =>
      obtain ⟨b, h2, h3⟩ := ce.2 m c e
      rw [h1] at h2
      cases h2
      cases c with
      | lst ys =>
        simp [snap, e] at h
        subst h
        obtain ⟨_, vs, h4, h5⟩ := h3
        cases n with
        | zero => exact o.elim
        | succ n => exact .lst (.inl (.inl h4)) (RDs.dp h5 o)
      | frz ys =>
        simp [snap, e] at h
        subst h
        obtain ⟨vs, h4, h5⟩ := h3
        cases n with
        | zero => exact o.elim
        | succ n => exact .lst (LstAt.sq (K := K) h4) (RDs.dp h5 o)
  | exc _ _ _ _ => cases h
def oEq (neg : Bool) (x y : P) (l : LS) (Q : P → LS → Prop) : Prop := match snap l x, snap l y with
  | some a, some b => dOk 60 a ∧ dOk 60 b ∧ Q (.d (.bl (if neg then !D.eqv a b else D.eqv a b))) l
  | _, _ => False
theorem ref_eq : RefOp K (rEqD K) (oEq false) := fun p l x y vx vy Qd Q w ce rx ry h k => by
  unfold oEq at h
  split at h
  · rename_i a b ha hb
    exact ⟨_, _, snap_ok ce rx ha h.1, snap_ok ce ry hb h.2.1, dOk_shaped h.1, dOk_shaped h.2.1, k.same w ce (d := .d _) (RD.bl _) h.2.2⟩
  · exact h.elim
theorem ref_ne : RefOp K (rNeD K) (oEq true) := fun p l x y vx vy Qd Q w ce rx ry h k => by
  unfold oEq at h
  split at h
  · rename_i a b ha hb
    exact ⟨_, _, snap_ok ce rx ha h.1, snap_ok ce ry hb h.2.1, dOk_shaped h.1, dOk_shaped h.2.1, k.same w ce (d := .d _) (RD.bl _) h.2.2⟩
  · exact h.elim
/-! what eqv says -/
/-- no True, no False -/
def noB : D → Prop
  | .bl _ => False
  | .tup xs => ∀ x ∈ xs, noB x
  | .lst xs => ∀ x ∈ xs, noB x
  | .scr _ => False
  | .ty _ => False
  | .obj _ _ _ => False
  | _ => True
mutual
theorem eqv_of : ∀ (a b : D), noB a → noB b → (PyData.eqv a.py b.py = true ↔ a = b)
  | .non, b, _, hb => by cases b <;> simp_all [D.py, PyData.eqv, noB]
  | .int i, b, _, hb => by cases b <;> simp_all [D.py, PyData.eqv, noB]
  | .str i, b, _, hb => by cases b <;> simp_all [D.py, PyData.eqv, noB]
  | .tup xs, b, ha, hb => by
    cases b with
    | tup ys =>
      simp only [noB] at ha hb
      simp only [D.py, PyData.eqv, D.tup.injEq]
      exact eqvs_of xs ys ha hb
    | _ => simp_all [D.py, PyData.eqv, noB]
  | .lst xs, b, ha, hb => by
    cases b with
    | lst ys =>
      simp only [noB] at ha hb
      simp only [D.py, PyData.eqv, D.lst.injEq]
      exact eqvs_of xs ys ha hb
    | _ => simp_all [D.py, PyData.eqv, noB]
  | .bl _, _, ha, _ => by simp [noB] at ha
  | .scr _, _, ha, _ => by simp [noB] at ha
  | .ty _, _, ha, _ => by simp [noB] at ha
  | .obj _ _ _, _, ha, _ => by simp [noB] at ha
theorem eqvs_of : ∀ (as bs : List D), (∀ x ∈ as, noB x) → (∀ x ∈ bs, noB x) → (PyData.eqvAll (D.pys as) (D.pys bs) = true ↔ as = bs)
  | [], [], _, _ => by simp [D.pys, PyData.eqvAll]
  | [], _ :: _, _, _ => by simp [D.pys, PyData.eqvAll]
  | _ :: _, [], _, _ => by simp [D.pys, PyData.eqvAll]
  | a :: as, b :: bs, ha, hb => by
    simp only [D.pys, PyData.eqvAll, Bool.and_eq_true, List.cons.injEq]
    rw [eqv_of a b (ha a List.mem_cons_self) (hb b List.mem_cons_self), eqvs_of as bs (fun x hx => ha x (List.mem_cons_of_mem _ hx)) (fun x hx => hb x (List.mem_cons_of_mem _ hx))]
end
theorem D.eqv_iff {a b : D} (ha : noB a) (hb : noB b) : D.eqv a b = true ↔ a = b := eqv_of a b ha hb
theorem D.eqv_self {a : D} (ha : noB a) : D.eqv a a = true := (eqv_of a a ha ha).mpr rfl
@[simp] theorem D.eqv_int (i j : Int) : D.eqv (.int i) (.int j) = decide (i = j) := by
  by_cases h : i = j <;> simp [D.eqv, D.py, PyData.eqv, h]
@[simp] theorem D.eqv_bl (i j : Bool) : D.eqv (.bl i) (.bl j) = (i == j) := by simp [D.eqv, D.py, PyData.eqv]
@[simp] theorem D.eqv_str (i j : Str) : D.eqv (.str i) (.str j) = (i == j) := by simp [D.eqv, D.py, PyData.eqv]
@[simp] theorem D.eqv_non : D.eqv .non .non = true := by simp [D.eqv, D.py, PyData.eqv]
end
end QL
set_option Elab.async false
set_option linter.all false
set_option maxRecDepth 100000
set_option maxHeartbeats 4000000
/-! QL4: sequences, built-ins, methods. -/
namespace QL
open PySem L2

section
variable {K : PySem.W.Frag} {p : Pt} {l : LS}
/-! ### in, not in: flat things -/
def flatD : D → Bool
  | .non => true
  | .bl _ => true
  | .int _ => true
  | .str _ => true
  | _ => false
theorem flat_ok {x : D} {v : V} (r : RD K p x v) (f : flatD x = true) : flatV v = true ∧ ∀ y u, RD K p y u → flatD y = true → eqV u v = D.eqv y x := by
  cases r with
  | non => exact ⟨rfl, fun y u r f => by cases r <;> simp_all [eqV, D.eqv, D.py, PyData.eqv, flatD]⟩
  | bl b => exact ⟨rfl, fun y u r f => by cases r <;> simp_all [eqV, D.eqv, D.py, PyData.eqv, flatD]⟩
  | int i => exact ⟨rfl, fun y u r f => by cases r <;> simp_all [eqV, D.eqv, D.py, PyData.eqv, flatD]⟩
  | str i => exact ⟨rfl, fun y u r f => by cases r <;> simp_all [eqV, D.eqv, D.py, PyData.eqv, flatD]⟩
  | ty _ => cases f
  | tup _ _ => cases f
  | lst _ _ => cases f
  | scr _ _ => cases f
  | obj _ _ _ => cases f
theorem flats_ok {x : D} {v : V} (r : RD K p x v) (f : flatD x = true) : ∀ {ys : List D} {vs : List V}, RDs K p ys vs → ys.all flatD = true → vs.all flatV = true ∧ inV v vs = ys.any fun y => D.eqv y x
  | _, _, .nil, _ => ⟨rfl, rfl⟩
  | y :: ys, u :: us, .cons h t, g => by
    simp only [List.all_cons, Bool.and_eq_true] at g
    have ih := flats_ok r f t g.2
    have h1 := (flat_ok r f).2 y u h g.1
    refine ⟨by simp [(flat_ok h g.1).1, ih.1], ?_⟩
    have ih2 := ih.2
    unfold inV at ih2 ⊢
    rw [List.any_cons, List.any_cons, h1, ih2]
def oIn (neg : Bool) (x y : P) (l : LS) (Q : P → LS → Prop) : Prop := match x, seqOf l y with
  | .d a, some ys => flatD a = true ∧ ys.all flatD = true ∧ Q (.d (.bl (if neg then !(ys.any fun z => D.eqv z a) else ys.any fun z => D.eqv z a))) l
  | _, _ => False
theorem ref_in {neg : Bool} : RefOp K (rIn K neg) (oIn neg) := fun p l x y vx vy Qd Q w ce rx ry h k => by
  unfold oIn at h
  split at h
  · rename_i a ys hy
    obtain ⟨b, vs, rfl, hs, hr⟩ := seqOf_ok ce ry hy
    have hh := flats_ok (p := p) rx h.1 hr h.2.1
    refine ⟨b, vs, rfl, hs, (flat_ok (p := p) rx h.1).1, hh.1, ?_⟩
    rw [hh.2]
    exact k.same w ce (d := .d _) (RD.bl _) h.2.2
  · exact h.elim

/-! ### joining -/
def oCat (f : Fresh) (x y : P) (l : LS) (Q : P → LS → Prop) : Prop := match lstOf l x, lstOf l y with
  | some a, some b => a.length + b.length ≤ sizeLine ∧ freshL f (a ++ b) l Q
  | _, _ => False
theorem ref_cat {f : Fresh} : RefOp K rCat (oCat f) := fun p l x y vx vy Qd Q w ce rx ry h k => by
  unfold oCat at h
  split at h
  · rename_i xs ys hx hy
    obtain ⟨a, vs, rfl, ha, ra⟩ := lstOf_ok ce rx hx
    obtain ⟨b, ws, rfl, hb, rb⟩ := lstOf_ok ce ry hy
    refine ⟨a, b, vs, ws, rfl, rfl, ha, hb, by rw [← ra.len, ← rb.len]; exact h.1, k.fresh w ce (ra.append rb) f h.2⟩
  · exact h.elim
def oCatT (x y : P) (l : LS) (Q : P → LS → Prop) : Prop := match x, y with
  | .d (.tup a), .d (.tup b) => a.length + b.length ≤ sizeLine ∧ Q (.d (.tup (a ++ b))) l
  | _, _ => False
theorem ref_catT : RefOp K (rCatA K) oCatT := fun p l x y vx vy Qd Q w ce rx ry h k => by
  unfold oCatT at h
  split at h
  · rename_i xs ys
    cases rx with
    | tup h1 r1 =>
      cases ry with
      | tup h2 r2 =>
        refine ⟨_, _, _, _, rfl, rfl, h1.sq, h2.sq, by rw [← r1.len, ← r2.len]; exact h.1, fun e => ?_, fun _ e => ?_, fun _ _ => k.newT w ce (r1.append r2) h.2⟩
        · subst e
          cases r1
          exact k.same w ce (d := .d _) (RD.tup h2 r2) h.2
        · subst e
          cases r2
          have q := h.2
          rw [List.append_nil] at q
          exact k.same w ce (d := .d _) (RD.tup h1 r1) q
  · exact h.elim
def oCatS (x y : P) (l : LS) (Q : P → LS → Prop) : Prop := match x, y with
  | .d (.str a), .d (.str b) => a.length + b.length ≤ sizeLine ∧ Q (.d (.str (a ++ b))) l
  | _, _ => False
theorem ref_catS : RefOp K (fun x y H Q => ∃ i j, x = .str i ∧ y = .str j ∧ i.length + j.length ≤ sizeLine ∧ Q (.str (i ++ j)) H) oCatS := fun p l x y vx vy Qd Q w ce rx ry h k => by
  unfold oCatS at h
  split at h
  · cases rx; cases ry
    exact ⟨_, _, rfl, rfl, h.1, k.same w ce (d := .d _) (RD.str _) h.2⟩
  · exact h.elim
/-! ### subscripts -/
theorem RDs.atI {xs : List D} {vs : List V} {i : Int} {x : D} (r : RDs K p xs vs) (e : atI xs i = some x) : ∃ v, atI vs i = some v ∧ RD K p x v := by
  unfold L2.atI at e ⊢
  rw [← r.len]
  cases q : ixN xs.length i with
  | none => rw [q] at e; cases e
  | some j =>
    rw [q] at e
    exact r.get e
def oIx (x y : P) (l : LS) (Q : P → LS → Prop) : Prop := match y with
  | .d (.int i) => match seqOf l x with
    | some xs => ∃ v, atI xs i = some v ∧ Q (.d v) l
    | none => match x with
      | .d (.str z) => z.length ≤ sizeLine ∧ ∃ c, atI z.cps.toList i = some c ∧ Q (.d (.str ⟨#[c]⟩)) l
      | _ => False
  | _ => False
theorem ref_ix : RefOp K (rIx K) oIx := fun p l x y vx vy Qd Q w ce rx ry h k => by
  unfold oIx at h
  split at h
  · rename_i i
    cases ry
    split at h
    · rename_i xs hx
      obtain ⟨a, vs, rfl, hs, hr⟩ := seqOf_ok ce rx hx
      obtain ⟨d, h1, h2⟩ := h
      obtain ⟨v, h3, h4⟩ := hr.atI h1
      have q := k.same w ce (d := .d d) h4 h2
      rcases hs with hs | hs
      · exact .inl ⟨a, vs, i, v, rfl, rfl, hs, h3, q⟩
      · exact .inr (.inl ⟨a, vs, i, v, rfl, rfl, hs, h3, q⟩)
    · split at h
      · cases rx
        obtain ⟨hz, c, h1, h2⟩ := h
        exact .inr (.inr ⟨_, i, c, rfl, rfl, hz, h1, k.same w ce (d := .d _) (RD.str _) h2⟩)
      · exact h.elim
  · exact h.elim
end
section
variable {X : Cx} {W : WX} {a b e o : Expr} {es : List Expr} {wa wb we wo : WE} {ws : WA} {pos : Pos}
theorem qe_ix (ha : QE X W a wa) (hb : QE X W b wb) (hs : PlainIx b) : QE X W (.Subscript a b pos) (wOp oIx wa wb) := PE.imp (pe_ix ix_seq ha hb hs) fun _ _ _ h => op_ok ref_ix h
/-! ### slices -/
abbrev WO := SS → LS → (Option Int → LS → Prop) → EK → Prop
def cO (K : PySem.W.Frag) (W : WX) (w : WO) : TO := fun σ H Q => ∃ (p : Pt) (σd : SS) (l : LS) (Qd : Option Int → LS → Prop) (Ed : EK), p.H = H ∧ Rel K p σ σd l ∧ w σd l Qd Ed ∧
  (∀ b l' p', Ext p p' → Rel K p' σ σd l' → Qd b l' → Q b p'.H) ∧ LinkE K W p σ σd Ed
def QO (X : Cx) (W : WX) (e : Option Expr) (w : WO) : Prop := PO X e (cO X.K W w)
theorem PO.imp {X : Cx} {e : Option Expr} {t t' : TO} (h : PO X e t) (k : ∀ σ H Q, t' σ H Q → t σ H Q) : PO X e t' := ⟨fun pins s σ H Q I q => h.run pins s σ H Q I (k σ H Q q)⟩
theorem cO_ok {K : PySem.W.Frag} {p : Pt} {σ : St} {σd : SS} {l : LS} {w : WO} {Q : Option Int → Hp → Prop} {Qd : Option Int → LS → Prop} {Ed : EK} (R : Rel K p σ σd l) (hw : w σd l Qd Ed) (lk : LinkE K W p σ σd Ed)
    (k : ∀ b l' p', Ext p p' → Rel K p' σ σd l' → Qd b l' → Q b p'.H) : cO K W w σ p.H Q := ⟨p, σd, l, Qd, Ed, rfl, R, hw, k, lk⟩
def wNoPart (_ : SS) (l : LS) (Q : Option Int → LS → Prop) (_ : EK) : Prop := Q none l
def kPart (Q : Option Int → LS → Prop) (x : P) (l : LS) : Prop := match x with
  | .d (.int i) => Q (some i) l
  | _ => False
def wPart (we : WE) (σ : SS) (l : LS) (Q : Option Int → LS → Prop) (E : EK) : Prop := we σ l (kPart Q) E
theorem qo_none : QO X W none wNoPart := PO.imp po_none fun σ H Q ⟨p, σd, l, Qd, Ed, hH, R, hw, k, lk⟩ => by
  subst hH
  exact k none l p (Ext.refl p) R hw
theorem qo_some (h : QE X W e we) : QO X W (some e) (wPart we) := PO.imp (po_some h) fun σ H Q ⟨p, σd, l, Qd, Ed, hH, R, hw, k, lk⟩ => by
  subst hH
  refine cE_ok R hw lk fun x l1 v p1 e1 R1 r1 q1 => ?_
  unfold kPart at q1
  split at q1
  · cases r1
    exact ⟨_, rfl, k _ l1 p1 e1 R1 q1⟩
  · exact q1.elim
def cutD {α : Type} (xs : List α) (lo hi : Option Int) : List α := (xs.drop (HT.sIx xs.length 0 lo)).take (HT.sIx xs.length xs.length hi - HT.sIx xs.length 0 lo)
theorem RDs.cut {K : PySem.W.Frag} {p : Pt} {xs : List D} {vs : List V} (r : RDs K p xs vs) (lo hi : Option Int) : RDs K p (cutD xs lo hi) (cutV vs lo hi) := by
  unfold cutD cutV
  rw [r.len]
  exact (r.drop _).take _
abbrev ODs := P → Option Int → Option Int → LS → (P → LS → Prop) → Prop
def RefSl (K : PySem.W.Frag) (r : V → Option Int → Option Int → Hp → VK → Prop) (rd : ODs) : Prop := ∀ (p : Pt) (l : LS) (x : P) (vx : V) (lo hi : Option Int) (Qd : P → LS → Prop) (Q : VK), WF p → Cells K p l → RP K p x vx → rd x lo hi l Qd → After K p Qd Q → r vx lo hi p.H Q
def kSl3 (rd : ODs) (x : P) (i : Option Int) (Q : P → LS → Prop) (j : Option Int) (l : LS) : Prop := rd x i j l Q
def kSl2 (rd : ODs) (wh : WO) (σ : SS) (x : P) (Q : P → LS → Prop) (E : EK) (i : Option Int) (l : LS) : Prop := wh σ l (kSl3 rd x i Q) E
def kSl1 (rd : ODs) (wl wh : WO) (σ : SS) (Q : P → LS → Prop) (E : EK) (x : P) (l : LS) : Prop := wl σ l (kSl2 rd wh σ x Q E) E
def wSl (rd : ODs) (we : WE) (wl wh : WO) (σ : SS) (l : LS) (Q : P → LS → Prop) (E : EK) : Prop := we σ l (kSl1 rd wl wh σ Q E) E
theorem qe_sl {r : V → Option Int → Option Int → Hp → VK → Prop} {rd : ODs} {lo hi : Option Expr} {wl wh : WO} {p2 : Pos} (hr : SlR X r) (rr : RefSl X.K r rd) (he : QE X W e we) (hl : QO X W lo wl) (hu : QO X W hi wh) : QE X W (.Subscript e (.Slice lo hi none p2) pos) (wSl rd we wl wh) :=
  PE.imp (pe_slice hr he hl hu) fun σ H Q ⟨p, σd, l, Qd, Ed, hH, R, hw, k, lk⟩ => by
    subst hH
    exact cE_ok R hw lk fun x l1 v p1 e1 R1 r1 q1 => cO_ok R1 q1 (lk.mono e1) fun i l2 p2 e2 R2 q2 => cO_ok R2 q2 (lk.mono (e1.trans e2)) fun j l3 p3 e3 R3 q3 =>
      rr p3 l3 x v i j _ _ R3.wf R3.ce (r1.mono (e2.trans e3)) q3 fun d l' v' p' e' w' c' r' q' => k d l' v' p' (((e1.trans e2).trans e3).trans e') (R3.ext e' w' c') r' q'
def oSlL (f : Fresh) (x : P) (lo hi : Option Int) (l : LS) (Q : P → LS → Prop) : Prop := match x with
  | .d (.tup _) => False
  | _ => match seqOf l x with
    | some xs => freshL f (cutD xs lo hi) l Q
    | none => False
theorem ref_slL {K : PySem.W.Frag} {f : Fresh} : RefSl K (rSlL K) (oSlL f) := fun p l x vx lo hi Qd Q w ce rx h k => by
  unfold oSlL at h
  split at h
  · exact h.elim
  · rename_i nt
    split at h
    · rename_i xs hx
      cases x with
      | d x =>
        cases x with
        | tup _ => exact absurd rfl (nt _)
        | lst ys =>
          cases hx
          cases rx with
          | lst h1 h2 => exact ⟨_, _, rfl, LstAt.sq (K := K) h1, k.fresh w ce (h2.cut lo hi) f h⟩
        | scr ys =>
          cases hx
          cases rx with
          | scr h1 h2 => exact ⟨_, _, rfl, h1.sq, k.fresh w ce (h2.cut lo hi) f h⟩
        | _ => cases hx
      | loc n =>
        obtain ⟨a, vs, rfl, h1, h2⟩ := lstOf_ok ce rx (show lstOf l (.loc n) = some xs from hx)
        exact ⟨_, _, rfl, .inl (.inl h1), k.fresh w ce (h2.cut lo hi) f h⟩
      | exc _ _ _ _ => cases hx
    · exact h.elim
def oSlT (x : P) (lo hi : Option Int) (l : LS) (Q : P → LS → Prop) : Prop := match x with
  | .d (.tup xs) => Q (.d (.tup (cutD xs lo hi))) l
  | _ => False
theorem ref_slT {K : PySem.W.Frag} : RefSl K (rSlA K) oSlT := fun p l x vx lo hi Qd Q w ce rx h k => by
  unfold oSlT at h
  split at h
  · rename_i xs
    cases rx with
    | tup h1 r1 =>
      refine ⟨_, _, rfl, h1.sq, fun e => ?_, fun _ => k.newT w ce (r1.cut lo hi) h⟩
      have e1 : cutD xs lo hi = xs := by
        unfold cutD
        rw [r1.len, e.1, e.2]
        simp [← r1.len]
      rw [e1] at h
      exact k.same w ce (d := .d _) (RD.tup h1 r1) h
  · exact h.elim
def oSlS (x : P) (lo hi : Option Int) (l : LS) (Q : P → LS → Prop) : Prop := match x with
  | .d (.str z) => z.length ≤ sizeLine ∧ Q (.d (.str (cutS z lo hi))) l
  | _ => False
theorem ref_slS {K : PySem.W.Frag} : RefSl K rSlS oSlS := fun p l x vx lo hi Qd Q w ce rx h k => by
  unfold oSlS at h
  split at h
  · cases rx
    exact ⟨_, rfl, h.1, k.same w ce (d := .d _) (RD.str _) h.2⟩
  · exact h.elim
/-! ### displays -/
def asDs : List P → Option (List D)
  | [] => some []
  | .d x :: r => (asDs r).map (x :: ·)
  | _ :: _ => none
theorem asDs_ok {K : PySem.W.Frag} {p : Pt} : ∀ {xs : List P} {vs : List V} {ds : List D}, RPs K p xs vs → asDs xs = some ds → RDs K p ds vs
  | [], _, _, .nil, h => by cases h; exact .nil
  | .d x :: r, _, ds, .cons h t, e => by
    simp only [asDs, Option.map_eq_some_iff] at e
    obtain ⟨ds', e1, rfl⟩ := e
    exact .cons h (asDs_ok t e1)
  | .loc _ :: _, _, _, _, e => by cases e
  | .exc _ _ _ _ :: _, _, _, _, e => by cases e
def kTupD (Q : P → LS → Prop) (xs : List P) (l : LS) : Prop := match asDs xs with
  | some ds => ds.length ≤ 1000 ∧ Q (.d (.tup ds)) l
  | none => False
def wTup (ws : WA) (σ : SS) (l : LS) (Q : P → LS → Prop) (E : EK) : Prop := ws σ l (kTupD Q) E
theorem qe_tup {x1} (h : QA X W es ws) : QE X W (.Tuple es x1 pos) (wTup ws) := PE.imp (pe_tup h) fun σ H Q ⟨p, σd, l, Qd, Ed, hH, R, hw, k, lk⟩ => by
  subst hH
  refine cA_ok R hw lk fun xs l1 vs p1 e1 R1 r1 q1 => ?_
  unfold kTupD at q1
  split at q1
  · rename_i ds hd
    have r := asDs_ok r1 hd
    refine ⟨by rw [← r.len]; exact Nat.le_trans q1.1 (by decide), After.newT (fun d l' v' p' e' w' c' r' q' => k d l' v' p' (e1.trans e') (R1.ext e' w' c') r' q') R1.wf R1.ce r q1.2⟩
  · exact q1.elim
def kLstD (f : Fresh) (Q : P → LS → Prop) (xs : List P) (l : LS) : Prop := match asDs xs with
  | some ds => ds.length ≤ 1000 ∧ freshL f ds l Q
  | none => False
def wLst (f : Fresh) (ws : WA) (σ : SS) (l : LS) (Q : P → LS → Prop) (E : EK) : Prop := ws σ l (kLstD f Q) E
theorem qe_lst {f : Fresh} (h : QA X W es ws) : QE X W (.List es pos) (wLst f ws) := PE.imp (pe_lst h) fun σ H Q ⟨p, σd, l, Qd, Ed, hH, R, hw, k, lk⟩ => by
  subst hH
  refine cA_ok R hw lk fun xs l1 vs p1 e1 R1 r1 q1 => ?_
  unfold kLstD at q1
  split at q1
  · rename_i ds hd
    have r := asDs_ok r1 hd
    refine ⟨by rw [← r.len]; exact Nat.le_trans q1.1 (by decide), After.fresh (fun d l' v' p' e' w' c' r' q' => k d l' v' p' (e1.trans e') (R1.ext e' w' c') r' q') R1.wf R1.ce r f q1.2⟩
  · exact q1.elim
/-- a cell that will not change any more -/
def kIce (Q : P → LS → Prop) (x : P) (l : LS) : Prop := match x with
  | .loc n => match l[n]? with
    | some (.lst xs) => Q (.d (.lst xs)) (l.set n (.frz xs))
    | some (.frz xs) => Q (.d (.lst xs)) l
    | none => False
  | x => Q x l
def wIce (we : WE) (σ : SS) (l : LS) (Q : P → LS → Prop) (E : EK) : Prop := we σ l (kIce Q) E
theorem qe_ice (h : QE X W e we) : QE X W e (wIce we) := PE.imp h fun σ H Q ⟨p, σd, l, Qd, Ed, hH, R, hw, k, lk⟩ => by
  subst hH
  refine cE_ok R hw lk fun x l1 v p1 e1 R1 r1 q1 => ?_
  cases x with
  | d x => exact k _ _ _ _ e1 R1 r1 q1
  | exc _ _ _ _ => exact k _ _ _ _ e1 R1 r1 q1
  | loc n =>
    obtain ⟨a, h1, rfl⟩ := r1
    unfold kIce at q1
    dsimp only at q1
    cases e : l1[n]? with
    | none => rw [e] at q1; exact q1.elim
    | some c =>
      rw [e] at q1
      cases c with
      | lst xs =>
        have q : Qd (.d (.lst xs)) (l1.set n (.frz xs)) := q1
        obtain ⟨c1, r2⟩ := Cells.ice R1.wf R1.ce h1 e
        have hr := List.mem_of_getElem? h1
        exact k (.d (.lst xs)) _ _ (p1.ice a) (e1.trans (ext_ice hr)) (R1.ext (ext_ice hr) (wf_ice R1.wf hr) c1) r2 q
      | frz xs =>
        have q : Qd (.d (.lst xs)) l1 := q1
        obtain ⟨b, h2, vs, h3, h4⟩ := R1.ce.2 n _ e
        rw [h1] at h2
        cases h2
        exact k (.d (.lst xs)) _ _ p1 e1 R1 (show RP X.K p1 (.d (.lst xs)) (.ref a) from RD.lst h3 h4) q
end
section
variable {K : PySem.W.Frag}
/-! ### built-ins -/
def bLen (xs : List P) (l : LS) (Q : P → LS → Prop) : Prop := match xs with
  | [x] => match seqOf l x with
    | some ys => Q (.d (.int (ys.length : Int))) l
    | none => False
  | _ => False
theorem ref_len : RefCall K (fun xs H Q => ∃ p ys, xs = [V.ref p] ∧ (SqL K H p ys ∨ SqT K H p ys) ∧ Q (V.int ys.length) H) bLen := fun p l xs vs Qd Q w ce rx h k => by
  unfold bLen at h
  split at h
  · obtain ⟨v, rfl, r⟩ := rx.one
    split at h
    · rename_i ys hy
      obtain ⟨a, us, rfl, hs, hr⟩ := seqOf_ok ce r hy
      refine ⟨a, us, rfl, hs, ?_⟩
      rw [← hr.len]
      exact k.same w ce (d := .d _) (RD.int _) h
    · exact h.elim
  · exact h.elim
def bLenS (xs : List P) (l : LS) (Q : P → LS → Prop) : Prop := match xs with
  | [.d (.str z)] => z.length ≤ sizeLine ∧ Q (.d (.int (z.length : Int))) l
  | _ => False
theorem ref_lenS : RefCall K (fun xs H Q => ∃ z, xs = [V.str z] ∧ z.length ≤ sizeLine ∧ Q (V.int z.length) H) bLenS := fun p l xs vs Qd Q w ce rx h k => by
  unfold bLenS at h
  split at h
  · obtain ⟨v, rfl, r⟩ := rx.one
    cases r
    exact ⟨_, rfl, h.1, k.same w ce (d := .d _) (RD.int _) h.2⟩
  · exact h.elim
def bList (f : Fresh) (xs : List P) (l : LS) (Q : P → LS → Prop) : Prop := match xs with
  | [x] => match seqOf l x with
    | some ys => freshL f ys l Q
    | none => False
  | _ => False
theorem ref_list {f : Fresh} : RefCall K (fun xs H Q => ∃ p ys, xs = [V.ref p] ∧ (SqL K H p ys ∨ SqT K H p ys) ∧ ∀ l, H l = none → Q (.ref l) (upd H l (.lst ys))) (bList f) := fun p l xs vs Qd Q w ce rx h k => by
  unfold bList at h
  split at h
  · obtain ⟨v, rfl, r⟩ := rx.one
    split at h
    · rename_i ys hy
      obtain ⟨a, us, rfl, hs, hr⟩ := seqOf_ok ce r hy
      exact ⟨a, us, rfl, hs, k.fresh w ce hr f h⟩
    · exact h.elim
  · exact h.elim
def bTup (xs : List P) (l : LS) (Q : P → LS → Prop) : Prop := match xs with
  | [x] => match seqOf l x with
    | some ys => Q (.d (.tup ys)) l
    | none => False
  | _ => False
theorem ref_tuple : RefCall K (fun xs H Q => ∃ p ys, xs = [V.ref p] ∧ ((SqL K H p ys ∧ ∀ l, H l = none → Q (.ref l) (upd H l (.tup ys))) ∨ (SqT K H p ys ∧ Q (.ref p) H))) bTup := fun p l xs vs Qd Q w ce rx h k => by
  unfold bTup at h
  split at h
  · rename_i x
    obtain ⟨v, rfl, r⟩ := rx.one
    split at h
    · rename_i ys hy
      cases x with
      | d x =>
        cases x with
        | tup zs =>
          cases hy
          cases r with
          | tup h1 h2 => exact ⟨_, _, rfl, .inr ⟨h1.sq, k.same w ce (d := .d _) (RD.tup h1 h2) h⟩⟩
        | lst zs =>
          cases hy
          cases r with
          | lst h1 h2 => exact ⟨_, _, rfl, .inl ⟨LstAt.sq (K := K) h1, k.newT w ce h2 h⟩⟩
        | scr zs =>
          cases hy
          cases r with
          | scr h1 h2 => exact ⟨_, _, rfl, .inl ⟨h1.sq, k.newT w ce h2 h⟩⟩
        | _ => cases hy
      | loc n =>
        obtain ⟨a, us, rfl, h1, h2⟩ := lstOf_ok ce r (show lstOf l (.loc n) = some ys from hy)
        exact ⟨_, _, rfl, .inl ⟨.inl (.inl h1), k.newT w ce h2 h⟩⟩
      | exc _ _ _ _ => cases hy
    · exact h.elim
  · exact h.elim
/-- a list (not a tuple) of things of one form -/
def lisOf (l : LS) : P → Option (List D)
  | .d (.lst xs) => some xs
  | .d (.scr xs) => some xs
  | .loc n => lstOf l (.loc n)
  | _ => none
theorem lisOf_ok {p : Pt} {l : LS} {x : P} {v : V} {xs : List D} (ce : Cells K p l) (r : RP K p x v) (h : lisOf l x = some xs) : ∃ a vs, v = .ref a ∧ SqL K p.H a vs ∧ RDs K p xs vs := by
  cases x with
  | d x =>
    cases x with
    | lst ys =>
      cases h
      cases r with
      | lst h1 h2 => exact ⟨_, _, rfl, LstAt.sq (K := K) h1, h2⟩
    | scr ys =>
      cases h
      cases r with
      | scr h1 h2 => exact ⟨_, _, rfl, h1.sq, h2⟩
    | _ => cases h
  | loc n =>
    obtain ⟨a, vs, rfl, h1, h2⟩ := lstOf_ok ce r h
    exact ⟨a, vs, rfl, .inl (.inl h1), h2⟩
  | exc _ _ _ _ => cases h
def bSum (xs : List P) (l : LS) (Q : P → LS → Prop) : Prop := match xs with
  | [x] => ∃ ns : List Int, lisOf l x = some (ns.map .int) ∧ Q (.d (.int ns.sum)) l
  | _ => False
theorem ref_sum : RefCall K (rSum K) bSum := fun p l xs vs Qd Q w ce rx h k => by
  unfold bSum at h
  split at h
  · obtain ⟨v, rfl, r⟩ := rx.one
    obtain ⟨ns, h1, h2⟩ := h
    obtain ⟨a, us, rfl, hs, hr⟩ := lisOf_ok ce r h1
    rw [hr.ints] at hs
    exact ⟨a, ns, rfl, hs, k.same w ce (d := .d _) (RD.int _) h2⟩
  · exact h.elim
def bAny (xs : List P) (l : LS) (Q : P → LS → Prop) : Prop := match xs with
  | [x] => ∃ ns : List Bool, lisOf l x = some (ns.map .bl) ∧ Q (.d (.bl (ns.any id))) l
  | _ => False
theorem ref_any : RefCall K (rAny K) bAny := fun p l xs vs Qd Q w ce rx h k => by
  unfold bAny at h
  split at h
  · obtain ⟨v, rfl, r⟩ := rx.one
    obtain ⟨ns, h1, h2⟩ := h
    obtain ⟨a, us, rfl, hs, hr⟩ := lisOf_ok ce r h1
    rw [hr.bls] at hs
    exact ⟨a, ns, rfl, hs, k.same w ce (d := .d _) (RD.bl _) h2⟩
  · exact h.elim
def bAll (xs : List P) (l : LS) (Q : P → LS → Prop) : Prop := match xs with
  | [x] => ∃ ns : List Bool, lisOf l x = some (ns.map .bl) ∧ Q (.d (.bl (ns.all id))) l
  | _ => False
theorem ref_all : RefCall K (rAll K) bAll := fun p l xs vs Qd Q w ce rx h k => by
  unfold bAll at h
  split at h
  · obtain ⟨v, rfl, r⟩ := rx.one
    obtain ⟨ns, h1, h2⟩ := h
    obtain ⟨a, us, rfl, hs, hr⟩ := lisOf_ok ce r h1
    rw [hr.bls] at hs
    exact ⟨a, ns, rfl, hs, k.same w ce (d := .d _) (RD.bl _) h2⟩
  · exact h.elim
def bMax (xs : List P) (l : LS) (Q : P → LS → Prop) : Prop := match xs with
  | [x] => ∃ ns : List Int, lisOf l x = some (ns.map .int) ∧ 0 < ns.length ∧ ∀ m, m ∈ ns → (∀ y, y ∈ ns → y ≤ m) → Q (.d (.int m)) l
  | _ => False
theorem ref_max : RefCall K (rMax K) bMax := fun p l xs vs Qd Q w ce rx h k => by
  unfold bMax at h
  split at h
  · obtain ⟨v, rfl, r⟩ := rx.one
    obtain ⟨ns, h1, h0, h2⟩ := h
    obtain ⟨a, us, rfl, hs, hr⟩ := lisOf_ok ce r h1
    rw [hr.ints] at hs
    exact ⟨a, ns, rfl, hs, h0, fun m hm hy => k.same w ce (d := .d _) (RD.int _) (h2 m hm hy)⟩
  · exact h.elim
def bMin (xs : List P) (l : LS) (Q : P → LS → Prop) : Prop := match xs with
  | [x] => ∃ ns : List Int, lisOf l x = some (ns.map .int) ∧ 0 < ns.length ∧ ∀ m, m ∈ ns → (∀ y, y ∈ ns → m ≤ y) → Q (.d (.int m)) l
  | _ => False
theorem ref_min : RefCall K (rMin K) bMin := fun p l xs vs Qd Q w ce rx h k => by
  unfold bMin at h
  split at h
  · obtain ⟨v, rfl, r⟩ := rx.one
    obtain ⟨ns, h1, h0, h2⟩ := h
    obtain ⟨a, us, rfl, hs, hr⟩ := lisOf_ok ce r h1
    rw [hr.ints] at hs
    exact ⟨a, ns, rfl, hs, h0, fun m hm hy => k.same w ce (d := .d _) (RD.int _) (h2 m hm hy)⟩
  · exact h.elim
def bInt2 (g : Int → Int → Int) (xs : List P) (l : LS) (Q : P → LS → Prop) : Prop := match xs with
  | [.d (.int i), .d (.int j)] => Q (.d (.int (g i j))) l
  | _ => False
theorem ref_int2 {g : Int → Int → Int} : RefCall K (fun xs H Q => ∃ i j, xs = [V.int i, V.int j] ∧ Q (.int (g i j)) H) (bInt2 g) := fun p l xs vs Qd Q w ce rx h k => by
  unfold bInt2 at h
  split at h
  · obtain ⟨v, u, rfl, r, r2⟩ := rx.two
    cases r; cases r2
    exact ⟨_, _, rfl, k.same w ce (d := .d _) (RD.int _) h⟩
  · exact h.elim
def bInt1 (g : Int → Int) (xs : List P) (l : LS) (Q : P → LS → Prop) : Prop := match xs with
  | [.d (.int i)] => Q (.d (.int (g i))) l
  | _ => False
theorem ref_abs : RefCall K (fun xs H Q => ∃ i, xs = [V.int i] ∧ Q (.int (if i < 0 then -i else i)) H) (bInt1 fun i => if i < 0 then -i else i) := fun p l xs vs Qd Q w ce rx h k => by
  unfold bInt1 at h
  split at h
  · obtain ⟨v, rfl, r⟩ := rx.one
    cases r
    exact ⟨_, rfl, k.same w ce (d := .d _) (RD.int _) h⟩
  · exact h.elim
theorem ref_int : RefCall K (fun xs H Q => (∃ i, xs = [V.int i] ∧ Q (.int i) H) ∨ ∃ k, xs = [.bl k] ∧ Q (.int (if k then 1 else 0)) H) (bInt1 fun i => i) := fun p l xs vs Qd Q w ce rx h k => by
  unfold bInt1 at h
  split at h
  · obtain ⟨v, rfl, r⟩ := rx.one
    cases r
    exact .inl ⟨_, rfl, k.same w ce (d := .d _) (RD.int _) h⟩
  · exact h.elim
def bStr (xs : List P) (l : LS) (Q : P → LS → Prop) : Prop := match xs with
  | [.d (.int i)] => i.natAbs.log2 < 1920 ∧ Q (.d (.str (toString i))) l
  | _ => False
theorem ref_str : RefCall K (fun xs H Q => ∃ i : Int, xs = [V.int i] ∧ i.natAbs.log2 < 1920 ∧ Q (.str (toString i)) H) bStr := fun p l xs vs Qd Q w ce rx h k => by
  unfold bStr at h
  split at h
  · obtain ⟨v, rfl, r⟩ := rx.one
    cases r
    exact ⟨_, rfl, h.1, k.same w ce (d := .d _) (RD.str _) h.2⟩
  · exact h.elim
/-- the built-in type of a thing -/
def tyOf : P → Option String
  | .d .non => some "NoneType"
  | .d (.bl _) => some "bool"
  | .d (.int _) => some "int"
  | .d (.str _) => some "str"
  | .d (.tup _) => some "tuple"
  | .d (.lst _) => some "list"
  | .loc _ => some "list"
  | _ => none
theorem tupAt_ty {p : Pt} {a : Addr} {vs : List V} (h : TupAt K p a vs) : TyX K p.H (.ref a) (.type "tuple") := by
  rcases h with ⟨_, h | ⟨o, h⟩⟩ | (h | ⟨o, h⟩) | ⟨o, its, n, h1, h2, h3⟩
  · exact .base (.tup h)
  · exact .fTuple h
  · cases h
  · cases h
  · exact .kTuple h1 h2
theorem tyOf_ok {p : Pt} {l : LS} {x : P} {v : V} {n : String} (ce : Cells K p l) (r : RP K p x v) (h : tyOf x = some n) (hl : ∀ m, x = .loc m → (lstOf l x).isSome = true) : TyX K p.H v (.type n) := by
  cases x with
  | d x =>
    cases r with
    | non => cases h; exact .base .non
    | bl _ => cases h; exact .base (.bl _)
    | int _ => cases h; exact .base (.int _)
    | str _ => cases h; exact .base (.str _)
    | tup h1 _ => cases h; exact tupAt_ty h1
    | lst h1 _ => cases h; exact .base (.lst h1.2)
    | ty _ => cases h
    | scr _ _ => cases h
    | obj _ _ _ => cases h
  | loc m =>
    cases h
    obtain ⟨xs, e⟩ := Option.isSome_iff_exists.mp (hl m rfl)
    obtain ⟨a, vs, rfl, h1, _⟩ := lstOf_ok ce r e
    exact .base (.lst h1)
  | exc _ _ _ _ => cases h
/-- isinstance(x, T), T a built-in type -/
def isT (n c : String) : Option Bool :=
  if n = c then (if n ∈ ["NoneType", "bool", "int", "str", "tuple", "list"] then some true else none)
  else if n = "bool" ∧ c = "int" then some true
  else if n ∈ ["NoneType", "bool", "int", "str", "tuple", "list"] ∧ c ∈ ["bool", "int", "str", "tuple", "list", "dict"] then some false else none
theorem isT_ok {n c : String} {b : Bool} (h : isT n c = some b) : kitB n c = some b := by
  unfold isT at h
  have all1 : ∀ n ∈ ["NoneType", "bool", "int", "str", "tuple", "list"], kitB n n = some true := by decide +kernel
  have all2 : ∀ n ∈ ["NoneType", "bool", "int", "str", "tuple", "list"], ∀ c ∈ ["bool", "int", "str", "tuple", "list", "dict"], n ≠ c → ¬ (n = "bool" ∧ c = "int") → kitB n c = some false := by decide +kernel
  split at h
  · rename_i e
    subst e
    split at h
    · rename_i m
      cases h
      exact all1 n m
    · cases h
  · rename_i ne
    split at h
    · rename_i m
      cases h
      obtain ⟨rfl, rfl⟩ := m
      decide +kernel
    · rename_i nb
      split at h
      · rename_i m
        cases h
        exact all2 n m.1 c m.2 ne nb
      · cases h
def bIsi (xs : List P) (l : LS) (Q : P → LS → Prop) : Prop := match xs with
  | [x, .d (.ty c)] => match tyOf x with
    | some n => match x with
      | .loc m => (lstOf l (.loc m)).isSome = true ∧ match isT n c with
        | some b => Q (.d (.bl b)) l
        | none => False
      | _ => match isT n c with
        | some b => Q (.d (.bl b)) l
        | none => False
    | none => False
  | _ => False
theorem ref_isi : RefCall K (rIsi K) bIsi := fun p l xs vs Qd Q w ce rx h k => by
  unfold bIsi at h
  split at h
  · rename_i x c
    obtain ⟨v, u, rfl, r, r2⟩ := rx.two
    cases r2
    cases e : tyOf x with
    | none => rw [e] at h; exact h.elim
    | some n =>
      rw [e] at h
      have fin : (∀ m, x = .loc m → (lstOf l x).isSome = true) → (match isT n c with | some b => Qd (.d (.bl b)) l | none => False) → rIsi K [v, .ty c] p.H Q := fun hl hq => by
        split at hq
        · rename_i b eb
          exact ⟨v, .ty c, .type n, .type c, b, rfl, .ty c, tyOf_ok ce r e hl, kit_ty (isT_ok eb), k.same w ce (d := .d _) (RD.bl _) hq⟩
        · exact hq.elim
      cases x with
      | d x => exact fin (fun m z => nomatch z) h
      | loc m => exact fin (fun m' z => by cases z; exact h.1) h.2
      | exc _ _ _ _ => exact fin (fun m z => nomatch z) h
  · exact h.elim
end
/-! ### methods of lists -/
section
variable {X : Cx} {W : WX} {a b e o : Expr} {es : List Expr} {wa wb we wo : WE} {ws : WA} {pos : Pos}
def RefMt (K : PySem.W.Frag) (r : V → List V → Hp → VK → Prop) (rd : ODm) : Prop := ∀ (p : Pt) (l : LS) (x : P) (vx : V) (xs : List P) (vs : List V) (Qd : P → LS → Prop) (Q : VK), WF p → Cells K p l → RP K p x vx → RPs K p xs vs → rd x xs l Qd → After K p Qd Q → r vx vs p.H Q
theorem RPs.mono {K : PySem.W.Frag} {p p' : Pt} (e : Ext p p') {xs : List P} {vs : List V} (h : RPs K p xs vs) : RPs K p' xs vs := Paired.mapP h fun _ _ r => r.mono e
def kBM2 (rd : ODm) (x : P) (Q : P → LS → Prop) (xs : List P) (l : LS) : Prop := rd x xs l Q
def kBM1 (rd : ODm) (ws : WA) (σ : SS) (Q : P → LS → Prop) (E : EK) (x : P) (l : LS) : Prop := (lisOf l x).isSome = true ∧ ws σ l (kBM2 rd x Q) E
def wBM (rd : ODm) (wo : WE) (ws : WA) (σ : SS) (l : LS) (Q : P → LS → Prop) (E : EK) : Prop := wo σ l (kBM1 rd ws σ Q E) E
def kBM0 (rd : ODm) (Q : P → LS → Prop) (x : P) (l : LS) : Prop := (lisOf l x).isSome = true ∧ rd x [] l Q
def wBM0 (rd : ODm) (wo : WE) (σ : SS) (l : LS) (Q : P → LS → Prop) (E : EK) : Prop := wo σ l (kBM0 rd Q) E
theorem lis_ty {K : PySem.W.Frag} {p : Pt} {l : LS} {x : P} {v : V} (ce : Cells K p l) (r : RP K p x v) (h : (lisOf l x).isSome = true) : tyV K "list" v p.H := by
  obtain ⟨xs, e⟩ := Option.isSome_iff_exists.mp h
  obtain ⟨a, vs, rfl, hs, _⟩ := lisOf_ok ce r e
  exact .inl ⟨rfl, vs, hs⟩
theorem qe_bm {name : Str} {id : String} {r : V → List V → Hp → VK → Prop} {rd : ODm} {apos cpos : Pos} (slot : Slot "list" name id) (hty : typeOf (.builtin id) = pure (.type "method_descriptor")) (hm : MtR X id r) (rr : RefMt X.K r rd) (ho : QE X W o wo) (ha : QA X W (e :: es) ws)
    (hbase : attributeBase o name X.env (eval o X.env) = eval o X.env := by rfl)
    (hp : ((backTo cpos (starEach (e :: es) X.env)).all (fun x => !x.1) && (backToKw cpos (keywordEach [] X.env)).all (fun x => x.1.isSome) && decide ((e :: es).length + ([] : List Keyword).length + (if ([] : List Keyword).isEmpty = true then 0 else 1) < 30)) = true := by rfl)
    (hline : (apos.endLine == cpos.line) = true := by rfl) (hs : starEach (e :: es) X.env = (false, eval e X.env) :: starEach es X.env := by rfl) (hpl : (backTo cpos (starEach es X.env)).any (·.1) = false := by rfl) :
    QE X W (.Call (.Attribute o name apos) (e :: es) [] cpos) (wBM rd wo ws) := PE.imp (pe_bm PySem.F.plainAttrs_list slot hty hm ho ha hbase hp hline hs hpl) fun σ H Q ⟨p, σd, l, Qd, Ed, hH, R, hw, k, lk⟩ => by
  subst hH
  exact cE_ok R hw lk fun x l1 v p1 e1 R1 r1 q1 => ⟨lis_ty R1.ce r1 q1.1, cA_ok R1 q1.2 (lk.mono e1) fun xs l2 vs p2 e2 R2 r2 q2 =>
    rr p2 l2 x v xs vs _ _ R2.wf R2.ce (r1.mono e2) r2 q2 fun d l' v' p' e' w' c' r' q' => k d l' v' p' ((e1.trans e2).trans e') (R2.ext e' w' c') r' q'⟩
theorem qe_bm0 {name : Str} {id : String} {r : V → List V → Hp → VK → Prop} {rd : ODm} {apos cpos : Pos} (slot : Slot "list" name id) (hty : typeOf (.builtin id) = pure (.type "method_descriptor")) (hm : MtR X id r) (rr : RefMt X.K r rd) (ho : QE X W o wo)
    (hbase : attributeBase o name X.env (eval o X.env) = eval o X.env := by rfl) (hline : (apos.endLine == cpos.line) = true := by rfl) : QE X W (.Call (.Attribute o name apos) [] [] cpos) (wBM0 rd wo) := PE.imp (pe_bm0 PySem.F.plainAttrs_list slot hty hm ho hbase hline) fun σ H Q ⟨p, σd, l, Qd, Ed, hH, R, hw, k, lk⟩ => by
  subst hH
  exact cE_ok R hw lk fun x l1 v p1 e1 R1 r1 q1 => ⟨lis_ty R1.ce r1 q1.1, rr p1 l1 x v [] [] _ _ R1.wf R1.ce r1 .nil q1.2 fun d l' v' p' e' w' c' r' q' => k d l' v' p' (e1.trans e') (R1.ext e' w' c') r' q'⟩
end
section
variable {K : PySem.W.Frag}
/-- a cell is written -/
theorem put_ok {p : Pt} {l : LS} {n : Nat} {v : V} {xs ys : List D} {vs us : List V} (w : WF p) (ce : Cells K p l) (r : RP K p (.loc n) v) (e : l[n]? = some (.lst xs)) : ∃ a, v = .ref a ∧ ∃ vs, p.H a = some (.lst vs) ∧ RDs K p xs vs ∧
    ∀ ys us, RDs K p ys us → Ext p (p.put a (.lst us)) ∧ WF (p.put a (.lst us)) ∧ Cells K (p.put a (.lst us)) (l.set n (.lst ys)) := by
  obtain ⟨a, h1, rfl⟩ := r
  obtain ⟨b, h2, nf, vs, h3, h4⟩ := ce.2 n _ e
  rw [h1] at h2
  cases h2
  have hr := List.mem_of_getElem? h1
  exact ⟨a, rfl, vs, h3, h4, fun ys us q => ⟨ext_put hr nf, wf_put w, Cells.put w ce h1 nf ⟨nf, us, upd_same, q.mono (ext_put hr nf).hf⟩⟩⟩
def mAppend (x : P) (xs : List P) (l : LS) (Q : P → LS → Prop) : Prop := match x, xs with
  | .loc n, [.d y] => match l[n]? with
    | some (.lst ys) => ys.length < sizeLine ∧ Q (.d .non) (l.set n (.lst (ys ++ [y])))
    | _ => False
  | _, _ => False
theorem ref_append : RefMt K rAppend mAppend := fun p l x vx xs vs Qd Q w ce rx rxs h k => by
  unfold mAppend at h
  split at h
  · rename_i n y
    obtain ⟨v, rfl, r⟩ := rxs.one
    split at h
    · rename_i ys hy
      obtain ⟨a, rfl, us, h3, h4, f⟩ := put_ok (ys := []) (us := []) (vs := []) w ce rx hy
      obtain ⟨e1, w1, c1⟩ := f (ys ++ [y]) (us ++ [v]) (h4.append (.cons r .nil))
      exact ⟨a, us, v, rfl, rfl, h3, by rw [← h4.len]; exact h.1, k (.d .non) _ _ _ e1 w1 c1 RD.non h.2⟩
    · exact h.elim
  · exact h.elim
def mPop (x : P) (xs : List P) (l : LS) (Q : P → LS → Prop) : Prop := match x, xs with
  | .loc n, [] => match l[n]? with
    | some (.lst ys) => ∃ y, ys[ys.length - 1]? = some y ∧ Q (.d y) (l.set n (.lst ys.dropLast))
    | _ => False
  | _, _ => False
theorem ref_pop : RefMt K rPop mPop := fun p l x vx xs vs Qd Q w ce rx rxs h k => by
  unfold mPop at h
  split at h
  · rename_i n
    cases rxs
    split at h
    · rename_i ys hy
      obtain ⟨y, hy1, hy2⟩ := h
      obtain ⟨a, rfl, us, h3, h4, f⟩ := put_ok (ys := []) (us := []) (vs := []) w ce rx hy
      obtain ⟨e1, w1, c1⟩ := f ys.dropLast us.dropLast h4.dropLast
      obtain ⟨v, g1, g2⟩ := h4.get hy1
      exact ⟨a, us, v, rfl, rfl, h3, by rw [← h4.len]; exact g1, k (.d y) _ _ _ e1 w1 c1 (g2.mono e1.hf) hy2⟩
    · exact h.elim
  · exact h.elim
def mPopAt (x : P) (xs : List P) (l : LS) (Q : P → LS → Prop) : Prop := match x, xs with
  | .loc n, [.d (.int i)] => match l[n]? with
    | some (.lst ys) => -(2 ^ 63) ≤ i ∧ i < 2 ^ 63 ∧ ∃ k y, seqIndex? i ys.length = some k ∧ ys[k]? = some y ∧ Q (.d y) (l.set n (.lst (ys.eraseIdx k)))
    | _ => False
  | _, _ => False
theorem ref_popAt : RefMt K rPopAt mPopAt := fun p l x vx xs vs Qd Q w ce rx rxs h k => by
  unfold mPopAt at h
  split at h
  · rename_i n i
    obtain ⟨v, rfl, r⟩ := rxs.one
    cases r
    split at h
    · rename_i ys hy
      obtain ⟨b1, b2, j, y, hj, hy1, hy2⟩ := h
      obtain ⟨a, rfl, us, h3, h4, f⟩ := put_ok (ys := []) (us := []) (vs := []) w ce rx hy
      obtain ⟨e1, w1, c1⟩ := f (ys.eraseIdx j) (us.eraseIdx j) (h4.eraseIdx j)
      obtain ⟨v, g1, g2⟩ := h4.get hy1
      exact ⟨a, us, i, j, v, rfl, rfl, h3, b1, b2, by rw [← h4.len]; exact hj, g1, k (.d y) _ _ _ e1 w1 c1 (g2.mono e1.hf) hy2⟩
    · exact h.elim
  · exact h.elim
def mRev (x : P) (xs : List P) (l : LS) (Q : P → LS → Prop) : Prop := match x, xs with
  | .loc n, [] => match l[n]? with
    | some (.lst ys) => Q (.d .non) (l.set n (.lst ys.reverse))
    | _ => False
  | _, _ => False
theorem ref_reverse : RefMt K rReverse mRev := fun p l x vx xs vs Qd Q w ce rx rxs h k => by
  unfold mRev at h
  split at h
  · rename_i n
    cases rxs
    split at h
    · rename_i ys hy
      obtain ⟨a, rfl, us, h3, h4, f⟩ := put_ok (ys := []) (us := []) (vs := []) w ce rx hy
      obtain ⟨e1, w1, c1⟩ := f ys.reverse us.reverse h4.reverse
      exact ⟨a, us, rfl, rfl, h3, k (.d .non) _ _ _ e1 w1 c1 RD.non h⟩
    · exact h.elim
  · exact h.elim
def mExtend (x : P) (xs : List P) (l : LS) (Q : P → LS → Prop) : Prop := match x, xs with
  | .loc n, [y] => match l[n]? with
    | some (.lst ys) => match y with
      | .d (.tup zs) => ys.length + zs.length ≤ sizeLine ∧ Q (.d .non) (l.set n (.lst (ys ++ zs)))
      | y => match lstOf l y with
        | some zs => ys.length + zs.length ≤ sizeLine ∧ Q (.d .non) (l.set n (.lst (ys ++ zs)))
        | none => False
    | _ => False
  | _, _ => False
end
end QL
namespace PySem
open AutoSeq1
set_option maxRecDepth 8000 in
theorem list_extend_tup (l : Addr) (items : Array Value) (n : Nat) (b : Addr) (items2 : Array Value) (n2 : Nat) (dd : Option Addr) (sl : Array (Option Value)) (hs0 : ¬(!items.isEmpty && Builtin.List.listTooLong (items.size + items2.size)) = true) (hs1 : items.size ≤ sizeLine) (hs2 : items.size + items2.size ≤ sizeLine + 1) :
    Meets (Builtin.«list.extend» ⟨[.ref l, .ref b], []⟩) (fun _ R s => s.heap.get? l = some { cls := .type "list", dict := none, data := .seq items n, slots := #[] } ∧ s.heap.get? b = some { cls := .type "tuple", dict := dd, data := .seq items2 n2, slots := sl } ∧ R (.ok (.ret Value.none)) { s with heap := s.heap.update l (Obj.mapSeq fun x => x ++ items2), toks := s.toks }) :=
  .of_wp fun prog w A R s h => by
    obtain ⟨hp, g, d, tk, os⟩ := s; obtain ⟨hl, hb, h⟩ := h; have f1 := idx_int; have f2 := sub_tuple_tuple; have f3 := sub_list_list; have f4 := sub_tuple_list; have f5 := sub_list_tuple;
    have hz' : (items ++ items2).size ≤ sizeLine + 1 := by rw [Array.size_append]; exact hs2
    wp_walk using (wpAny_updateSeq hl rfl (hz := hs1) (_hz' := hz')), wpAny_loadPart' hl, wpAny_loadPart' hb; exact ⟨_, rfl, h⟩
end PySem
namespace QL
open PySem L2
def rExtT (K : PySem.W.Frag) : V → List V → Hp → VK → Prop := fun x vs H Q => ∃ l b xs zs, x = .ref l ∧ vs = [.ref b] ∧ H l = some (.lst xs) ∧ SqT K H b zs ∧ xs.length + zs.length ≤ sizeLine ∧ Q .non (upd H l (.lst (xs ++ zs)))
theorem mt_extendT {X : Cx} : MtM X "list.extend" (rExtT X.K) := by
  intro pins s σ H x v vs u Q I rx rv h
  obtain ⟨l, b, xs, zs, rfl, rfl, hH, hB, hz, q⟩ := h
  cases rx
  obtain ⟨u, rfl, ru⟩ := rv.one
  cases ru
  obtain ⟨z, its, n, r, hl, e⟩ := I.lstM hH
  obtain ⟨its2, r2, ⟨o2, e2, hc2, n2, hd2⟩, hl2⟩ := I.tuple hB
  obtain ⟨c2, d2, dt2, sl2⟩ := o2
  dsimp only at hc2 hd2
  subst hc2; subst hd2
  have hx : xs.length = its.length := r.length
  have hy : zs.length = its2.length := r2.length
  have hsz : its.toArray.size + its2.toArray.size ≤ sizeLine := by rw [List.size_toArray, List.size_toArray]; omega
  have hlong : ¬ (!its.toArray.isEmpty && Builtin.List.listTooLong (its.toArray.size + its2.toArray.size)) = true := by
    rw [notLongL hsz, Bool.and_false]
    exact Bool.false_ne_true
  refine call_meets F.slot_list_extend ⟨_, e, rfl⟩ F.entry_list_extend (F.args_list_extend_2 _ _)
    (PySem.list_extend_tup l its.toArray n b its2.toArray n2 d2 sl2 hlong (by rw [List.size_toArray]; omega) (by omega)) ⟨e, e2, ?_⟩
  refine ⟨.non, _, I.lset (its' := its ++ its2) hH e (by simp) (r.append r2) ?_, rfl, q⟩
  rw [List.length_append]
  omega
theorem ref_extend {K : PySem.W.Frag} : RefMt K (fun x vs H Q => rExtend x vs H Q ∨ rExtT K x vs H Q) mExtend := fun p l x vx xs vs Qd Q w ce rx rxs h k => by
  unfold mExtend at h
  split at h
  · rename_i n y
    obtain ⟨v, rfl, r⟩ := rxs.one
    split at h
    · rename_i ys hy
      obtain ⟨a, rfl, us, h3, h4, f⟩ := put_ok (ys := []) (us := []) (vs := []) w ce rx hy
      split at h
      · rename_i zs
        cases r with
        | tup h1 r1 =>
          obtain ⟨e1, w1, c1⟩ := f _ _ (h4.append r1)
          exact .inr ⟨a, _, us, _, rfl, rfl, h3, h1.sq, by rw [← h4.len, ← r1.len]; exact h.1, k (.d .non) _ _ _ e1 w1 c1 RD.non h.2⟩
      · split at h
        · rename_i zs hz
          obtain ⟨b, ws, rfl, hb, rb⟩ := lstOf_ok ce r hz
          obtain ⟨e1, w1, c1⟩ := f _ _ (h4.append rb)
          exact .inl ⟨a, b, us, ws, rfl, rfl, h3, hb, by rw [← h4.len, ← rb.len]; exact h.1, k (.d .non) _ _ _ e1 w1 c1 RD.non h.2⟩
        · exact h.elim
    · exact h.elim
  · exact h.elim
theorem mt_ext {X : Cx} : MtR X "list.extend" (fun x vs H Q => rExtend x vs H Q ∨ rExtT X.K x vs H Q) := fun pins s σ H x xs v us Q I rx rv h => by
  rcases h with h | h
  · exact mt_extend pins s σ H x xs v us Q I rx rv h
  · exact mt_extendT pins s σ H x xs v us Q I rx rv h
/-! ### l[i] = v -/
section
variable {X : Cx} {W : WX} {o i : Expr} {wo wi : WE} {pos : Pos}
def noEx (_ : Ex) (_ : LS) : Prop := False
def kSub2 (d : P) (σ : SS) (x : P) (Q : SS → LS → Prop) (y : P) (l : LS) : Prop := match d, x, y with
  | .d v, .loc n, .d (.int k) => match l[n]? with
    | some (.lst ys) => ∃ j, ixN ys.length k = some j ∧ Q σ (l.set n (.lst (ys.set j v)))
    | _ => False
  | _, _, _ => False
def kSub1 (wi : WE) (d : P) (σ : SS) (Q : SS → LS → Prop) (x : P) (l : LS) : Prop := wi σ l (kSub2 d σ x Q) noEx
def gSubL (wo wi : WE) (d : P) (σ : SS) (l : LS) (Q : SS → LS → Prop) : Prop := wo σ l (kSub1 wi d σ Q) noEx
theorem LinkE.never {K : PySem.W.Frag} {p : Pt} {σ : St} {σd : SS} : LinkE K W p σ σd noEx := fun _ _ _ _ _ _ _ _ h => h.elim
theorem qg_subL (ho : QE X W o wo) (hi : QE X W i wi)
    (ha : ∀ v, assign (.Subscript o i pos) X.env v = (do
      let ov ← holding [v] (eval o X.env)
      let iv ← holding [v, ov] (eval i X.env)
      standAt pos
      holding [v, ov, iv] (setItem ov iv v)
      release [v, ov, iv] []) := by intro _; rfl) : QG X (.Subscript o i pos) (gSubL wo wi) := PG.imp (pg_sub ho hi set_list ha) fun v σ H Q ⟨p, σd, l, d, Qd, hH, R, r, hw, k⟩ => by
  subst hH
  refine cE_ok R hw LinkE.never fun x l1 vx p1 e1 R1 r1 q1 => cE_ok R1 q1 LinkE.never fun y l2 vy p2 e2 R2 r2 q2 => ?_
  unfold kSub2 at q2
  split at q2
  · rename_i z n j
    cases r2
    split at q2
    · rename_i ys hy
      obtain ⟨m, hm, q⟩ := q2
      obtain ⟨a, rfl, us, h3, h4, f⟩ := put_ok (ys := []) (us := []) (vs := []) R2.wf R2.ce (r1.mono e2) hy
      obtain ⟨e3, w3, c3⟩ := f _ _ (h4.set (RD.mono (e1.trans e2).hf r) m)
      exact ⟨a, us, j, m, rfl, rfl, h3, by rw [← h4.len]; exact hm, k (p2.put a _) σ σd _ ((e1.trans e2).trans e3) (R2.ext e3 w3 c3) q⟩
    · exact q2.elim
  · exact q2.elim
end
end QL
set_option Elab.async false
set_option linter.all false
set_option maxRecDepth 100000
set_option maxHeartbeats 4000000
/-! QL5: loops, comprehensions, defs and their calls. -/
namespace QL
open PySem L2

/-! ### what a loop walks -/
structure Items where
  xs : List D
  ok : LS → Prop
abbrev WI := SS → LS → (Items → LS → Prop) → EK → Prop
/-- at each later point the iterator gives the items one by one -/
def ItOk (K : PySem.W.Frag) (p : Pt) (J : It) (I : Items) : Prop := ∀ p2 l2, Ext p p2 → WF p2 → Cells K p2 l2 → I.ok l2 → ∀ i : Nat,
  (I.xs.length ≤ i → J.stop i p2.H) ∧ (i < I.xs.length → J.go i p2.H) ∧
  (∀ x H' d, I.xs[i]? = some d → J.yld i p2.H x H' → ∃ p3, p3.H = H' ∧ Ext p2 p3 ∧ WF p3 ∧ Cells K p3 l2 ∧ RD K p3 d x)
def cI (K : PySem.W.Frag) (W : WX) (w : WI) : TI := fun σ H R => ∃ (p : Pt) (σd : SS) (l : LS) (Rd : Items → LS → Prop) (Ed : EK), p.H = H ∧ Rel K p σ σd l ∧ w σd l Rd Ed ∧
  (∀ I l' J p', Ext p p' → Rel K p' σ σd l' → ItOk K p' J I → Rd I l' → R J p'.H) ∧ LinkE K W p σ σd Ed
def QI (X : Cx) (W : WX) (tg e : Expr) (w : WI) : Prop := PI X tg e (cI X.K W w)
theorem PI.imp {X : Cx} {tg e : Expr} {t t' : TI} (h : PI X tg e t) (k : ∀ σ H Q, t' σ H Q → t σ H Q) : PI X tg e t' := ⟨fun pins s σ H R I q => h.run pins s σ H R I (k σ H R q)⟩
theorem cI_ok {K : PySem.W.Frag} {W : WX} {p : Pt} {σ : St} {σd : SS} {l : LS} {w : WI} {R : It → Hp → Prop} {Rd : Items → LS → Prop} {Ed : EK} (Rr : Rel K p σ σd l) (hw : w σd l Rd Ed) (lk : LinkE K W p σ σd Ed)
    (k : ∀ I l' J p', Ext p p' → Rel K p' σ σd l' → ItOk K p' J I → Rd I l' → R J p'.H) : cI K W w σ p.H R := ⟨p, σd, l, Rd, Ed, rfl, Rr, hw, k, lk⟩

theorem sqL_mono {K : PySem.W.Frag} {p p' : Pt} {a : Addr} {vs : List V} (e : Ext p p') (h : (p.F a ∧ Rd p.H a (.lst vs)) ∨ SqL K (fun _ => none) a vs) : SqL K p'.H a vs := (ScrAt.mono (K := K) e.hf h).sq
section
variable {X : Cx} {W : WX} {tg e : Expr} {we : WE} {ws : WA} {pos : Pos}
/-- over a list -/
def okAll (_ : LS) : Prop := True
def okCell (n : Nat) (xs : List D) (l : LS) : Prop := l[n]? = some (.lst xs)
def kLst (R : Items → LS → Prop) (x : P) (l : LS) : Prop := match x with
  | .d (.lst xs) => R ⟨xs, okAll⟩ l
  | .d (.scr xs) => R ⟨xs, okAll⟩ l
  | .loc n => match l[n]? with
    | some (.lst xs) => R ⟨xs, okCell n xs⟩ l
    | some (.frz xs) => R ⟨xs, okAll⟩ l
    | none => False
  | _ => False
def iLst (we : WE) (σ : SS) (l : LS) (R : Items → LS → Prop) (E : EK) : Prop := we σ l (kLst R) E
theorem it_list {K : PySem.W.Frag} {p : Pt} {a : Addr} {xs : List D} {vs : List V} {ok : LS → Prop} (hr : RDs K p xs vs) (h : ∀ p2 l2, Ext p p2 → WF p2 → Cells K p2 l2 → ok l2 → ∃ us, SqL K p2.H a us ∧ RDs K p2 xs us) : ItOk K p (Itl K a) ⟨xs, ok⟩ := fun p2 l2 e w c o i => by
  obtain ⟨us, h1, h2⟩ := h p2 l2 e w c o
  refine ⟨fun hi => ⟨us, h1, by rw [← h2.len]; exact hi⟩, fun hi => ?_, fun x H' d hd hy => ?_⟩
  · obtain ⟨v, g1, _⟩ := h2.get (List.getElem?_eq_getElem hi)
    exact ⟨us, v, h1, g1⟩
  · obtain ⟨v, g1, g2⟩ := h2.get hd
    obtain ⟨hH, hv⟩ := hy
    subst hH
    have e1 := hv us h1
    rw [g1] at e1
    cases e1
    exact ⟨p2, rfl, Ext.refl _, w, c, g2⟩
theorem qi_list (hl : QE X W e we) (hi : PI X tg e (iList X.K (cE X.K W we))) : QI X W tg e (iLst we) := PI.imp hi fun σ H R ⟨p, σd, l, Rd, Ed, hH, R0, hw, k, lk⟩ => by
  subst hH
  refine cE_ok R0 hw lk fun x l1 v p1 e1 R1 r1 q1 => ?_
  cases x with
  | d x =>
    cases x with
    | lst xs =>
      cases r1 with
      | lst h1 h2 => exact ⟨_, rfl, ⟨_, LstAt.sq (K := X.K) h1⟩, k ⟨xs, okAll⟩ l1 _ p1 e1 R1 (it_list h2 fun p2 l2 e2 w2 c2 _ => ⟨_, LstAt.sq (K := X.K) (h1.mono e2.hf), h2.mono e2.hf⟩) q1⟩
    | scr xs =>
      cases r1 with
      | scr h1 h2 => exact ⟨_, rfl, ⟨_, h1.sq⟩, k ⟨xs, okAll⟩ l1 _ p1 e1 R1 (it_list h2 fun p2 l2 e2 w2 c2 _ => ⟨_, (h1.mono e2.hf).sq, h2.mono e2.hf⟩) q1⟩
    | _ => exact q1.elim
  | loc n =>
    obtain ⟨a, h1, rfl⟩ := r1
    unfold kLst at q1
    dsimp only at q1
    cases ee : l1[n]? with
    | none => rw [ee] at q1; exact q1.elim
    | some c =>
      rw [ee] at q1
      obtain ⟨b, h2, h3⟩ := R1.ce.2 n c ee
      rw [h1] at h2
      cases h2
      cases c with
      | lst xs =>
        obtain ⟨nf, vs, h4, h5⟩ := h3
        refine ⟨a, rfl, ⟨vs, .inl (.inl h4)⟩, k ⟨xs, _⟩ l1 _ p1 e1 R1 (it_list h5 fun p2 l2 e2 w2 c2 o2 => ?_) q1⟩
        obtain ⟨b, g1, g2, us, g3, g4⟩ := c2.2 n _ o2
        obtain ⟨t, ht⟩ := e2.pre
        rw [ht, List.getElem?_append_left (List.getElem?_eq_some_iff.mp h1).1, h1] at g1
        cases g1
        exact ⟨us, .inl (.inl g3), g4⟩
      | frz xs =>
        obtain ⟨vs, h4, h5⟩ := h3
        exact ⟨a, rfl, ⟨vs, LstAt.sq (K := X.K) h4⟩, k ⟨xs, okAll⟩ l1 _ p1 e1 R1 (it_list h5 fun p2 l2 e2 w2 c2 _ => ⟨_, LstAt.sq (K := X.K) (h4.mono e2.hf), h5.mono e2.hf⟩) q1⟩
  | exc _ _ _ _ => exact q1.elim
def kTp (R : Items → LS → Prop) (x : P) (l : LS) : Prop := match x with
  | .d (.tup xs) => R ⟨xs, okAll⟩ l
  | _ => False
def iTp (we : WE) (σ : SS) (l : LS) (R : Items → LS → Prop) (E : EK) : Prop := we σ l (kTp R) E
theorem qi_tup (hi : PI X tg e (iTup X.K (cE X.K W we))) : QI X W tg e (iTp we) := PI.imp hi fun σ H R ⟨p, σd, l, Rd, Ed, hH, R0, hw, k, lk⟩ => by
  subst hH
  refine cE_ok R0 hw lk fun x l1 v p1 e1 R1 r1 q1 => ?_
  cases x with
  | d x =>
    cases x with
    | tup xs =>
      cases r1 with
      | @tup a _ vs h1 h2 =>
        refine ⟨_, rfl, ⟨_, h1.sq⟩, k ⟨xs, okAll⟩ l1 _ p1 e1 R1 (fun p2 l2 e2 w2 c2 _ i => ?_) q1⟩
        have g1 := (h1.mono e2.hf).sq
        have g2 := h2.mono e2.hf
        refine ⟨fun hi => ⟨vs, g1, by rw [← g2.len]; exact hi⟩, fun hi => ?_, fun x H' d hd hy => ?_⟩
        · obtain ⟨v, z1, _⟩ := g2.get (List.getElem?_eq_getElem hi)
          exact ⟨vs, v, g1, z1⟩
        · obtain ⟨v, z1, z2⟩ := g2.get hd
          obtain ⟨hH, hv⟩ := hy
          subst hH
          have e1 := hv vs g1
          rw [z1] at e1
          cases e1
          exact ⟨p2, rfl, Ext.refl _, w2, c2, z2⟩
    | _ => exact q1.elim
  | _ => exact q1.elim
def rangeD (lo : Int) (n : Nat) : List D := (List.range n).map fun i => D.int (lo + (i : Nat))
theorem rangeD_len {lo : Int} {n : Nat} : (rangeD lo n).length = n := by simp [rangeD]
theorem rangeD_get {lo : Int} {n i : Nat} {d : D} (h : (rangeD lo n)[i]? = some d) : i < n ∧ d = .int (lo + (i : Nat)) := by
  unfold rangeD at h
  rw [List.getElem?_map] at h
  by_cases hi : i < n
  · rw [List.getElem?_range hi] at h
    exact ⟨hi, by simpa using h.symm⟩
  · rw [List.getElem?_eq_none (by simpa using hi)] at h
    cases h
theorem it_range {K : PySem.W.Frag} {p : Pt} {lo : Int} {n : Nat} : ItOk K p (Itr lo n) ⟨rangeD lo n, okAll⟩ := fun p2 l2 e w c o i => by
  refine ⟨fun hi => by show n ≤ i; simpa [rangeD] using hi, fun hi => by show i < n; simpa [rangeD] using hi, fun x H' d hd hy => ?_⟩
  obtain ⟨hH, rfl⟩ := hy
  obtain ⟨_, rfl⟩ := rangeD_get hd
  exact ⟨p2, hH.symm, Ext.refl _, w, c, .int _⟩
def kRg1 (R : Items → LS → Prop) (xs : List P) (l : LS) : Prop := match xs with
  | [.d (.int j)] => -(2 ^ 62) ≤ j ∧ j < 2 ^ 62 ∧ R ⟨rangeD 0 j.toNat, okAll⟩ l
  | _ => False
def iRg1 (ws : WA) (σ : SS) (l : LS) (R : Items → LS → Prop) (E : EK) : Prop := ws σ l (kRg1 R) E
theorem qi_range1 (hi : PI X tg e (iRng1 (cA X.K W ws))) : QI X W tg e (iRg1 ws) := PI.imp hi fun σ H R ⟨p, σd, l, Rd, Ed, hH, R0, hw, k, lk⟩ => by
  subst hH
  refine cA_ok R0 hw lk fun xs l1 vs p1 e1 R1 r1 q1 => ?_
  unfold kRg1 at q1
  split at q1
  · obtain ⟨v, rfl, r⟩ := r1.one
    cases r
    exact ⟨_, rfl, q1.1, q1.2.1, k _ l1 _ p1 e1 R1 it_range q1.2.2⟩
  · exact q1.elim
def kRg2 (R : Items → LS → Prop) (xs : List P) (l : LS) : Prop := match xs with
  | [.d (.int i), .d (.int j)] => (-(2 ^ 62) ≤ i ∧ i < 2 ^ 62 ∧ -(2 ^ 62) ≤ j ∧ j < 2 ^ 62) ∧ R ⟨rangeD i (j - i).toNat, okAll⟩ l
  | _ => False
def iRg2 (ws : WA) (σ : SS) (l : LS) (R : Items → LS → Prop) (E : EK) : Prop := ws σ l (kRg2 R) E
theorem qi_range2 (hi : PI X tg e (iRng2 (cA X.K W ws))) : QI X W tg e (iRg2 ws) := PI.imp hi fun σ H R ⟨p, σd, l, Rd, Ed, hH, R0, hw, k, lk⟩ => by
  subst hH
  refine cA_ok R0 hw lk fun xs l1 vs p1 e1 R1 r1 q1 => ?_
  unfold kRg2 at q1
  split at q1
  · obtain ⟨v, u, rfl, r, r2⟩ := r1.two
    cases r; cases r2
    exact ⟨_, _, rfl, q1.1, k _ l1 _ p1 e1 R1 it_range q1.2⟩
  · exact q1.elim
/-- range(a, b, -1) and the like -/
def rangeC (lo c : Int) (n : Nat) : List D := (List.range n).map fun i => D.int (lo + (i : Nat) * c)
theorem rangeC_get {lo c : Int} {n i : Nat} {d : D} (h : (rangeC lo c n)[i]? = some d) : i < n ∧ d = .int (lo + (i : Nat) * c) := by
  unfold rangeC at h
  rw [List.getElem?_map] at h
  by_cases hi : i < n
  · rw [List.getElem?_range hi] at h
    exact ⟨hi, by simpa using h.symm⟩
  · rw [List.getElem?_eq_none (by simpa using hi)] at h
    cases h
theorem rangeC_len {lo c : Int} {n : Nat} : (rangeC lo c n).length = n := by simp [rangeC]
theorem it_rangeC {K : PySem.W.Frag} {p : Pt} {lo c : Int} {n : Nat} : ItOk K p (Itc lo c n) ⟨rangeC lo c n, okAll⟩ := fun p2 l2 e w ce o i => by
  refine ⟨fun hi => by show n ≤ i; simpa [rangeC] using hi, fun hi => by show i < n; simpa [rangeC] using hi, fun x H' d hd hy => ?_⟩
  obtain ⟨hH, rfl⟩ := hy
  obtain ⟨_, rfl⟩ := rangeC_get hd
  exact ⟨p2, hH.symm, Ext.refl _, w, ce, .int _⟩
def kRg3 (R : Items → LS → Prop) (xs : List P) (l : LS) : Prop := match xs with
  | [.d (.int i), .d (.int j), .d (.int c)] => ∃ n, RgC i j c n ∧ R ⟨rangeC i c n, okAll⟩ l
  | _ => False
def iRg3 (ws : WA) (σ : SS) (l : LS) (R : Items → LS → Prop) (E : EK) : Prop := ws σ l (kRg3 R) E
theorem qi_range3 (hi : PI X tg e (iRng3 (cA X.K W ws))) : QI X W tg e (iRg3 ws) := PI.imp hi fun σ H R ⟨p, σd, l, Rd, Ed, hH, R0, hw, k, lk⟩ => by
  subst hH
  refine cA_ok R0 hw lk fun xs l1 vs p1 e1 R1 r1 q1 => ?_
  unfold kRg3 at q1
  split at q1
  · obtain ⟨n, h1, h2⟩ := q1
    cases r1 with
    | cons r t =>
      obtain ⟨v, u, rfl, r2, r3⟩ := RPs.two t
      cases r; cases r2; cases r3
      exact ⟨_, _, _, n, rfl, h1, k _ l1 _ p1 e1 R1 it_rangeC h2⟩
  · exact q1.elim
/-- over the signs of a text -/
def signsD (z : Str) : List D := z.cps.toList.map fun c => D.str ⟨#[c]⟩
def kSt (R : Items → LS → Prop) (x : P) (l : LS) : Prop := match x with
  | .d (.str z) => R ⟨signsD z, okAll⟩ l
  | _ => False
def iSt (we : WE) (σ : SS) (l : LS) (R : Items → LS → Prop) (E : EK) : Prop := we σ l (kSt R) E
theorem qi_str (hi : PI X tg e (iStr (cE X.K W we))) : QI X W tg e (iSt we) := PI.imp hi fun σ H R ⟨p, σd, l, Rd, Ed, hH, R0, hw, k, lk⟩ => by
  subst hH
  refine cE_ok R0 hw lk fun x l1 v p1 e1 R1 r1 q1 => ?_
  unfold kSt at q1
  split at q1
  · rename_i z
    cases r1
    refine ⟨z, rfl, k ⟨signsD z, okAll⟩ l1 _ p1 e1 R1 (fun p2 l2 e2 w2 c2 _ i => ?_) q1⟩
    refine ⟨fun hi => by show z.cps.size ≤ i; simpa [signsD] using hi, fun hi => by show i < z.cps.size; simpa [signsD] using hi, fun x H' d hd hy => ?_⟩
    obtain ⟨hH, c, hc, rfl⟩ := hy
    unfold signsD at hd
    rw [List.getElem?_map, Array.getElem?_toList, hc] at hd
    cases hd
    exact ⟨p2, hH.symm, Ext.refl _, w2, c2, .str _⟩
  · exact q1.elim
end

/-! ### for -/
def kTurn (tb : WS) (D : ED) (N : SS → LS → Prop) (σ : SS) (l : LS) : Prop := tb { D with nx := N, ct := N, bk := D.nx } σ l
def loopP (I : Items) (g : WG) (tb : WS) (D : ED) (σ : SS) (l : LS) : Prop := ∃ Iv : Nat → SS → LS → Prop, Iv 0 σ l ∧ (∀ i σ l, Iv i σ l → I.ok l) ∧
  (∀ i x σ l, I.xs[i]? = some x → Iv i σ l → g (.d x) σ l (kTurn tb D (Iv (i + 1)))) ∧ ∀ σ l, Iv I.xs.length σ l → D.nx σ l
def kFor (g : WG) (tb : WS) (D : ED) (σ : SS) (I : Items) (l : LS) : Prop := loopP I g tb D σ l
def wFor (wi : WI) (g : WG) (tb : WS) (D : ED) (σ : SS) (l : LS) : Prop := wi σ l (kFor g tb D σ) (exK D σ)
section
variable {X : Cx} {W : WX}
theorem qs_for {tg iter : Expr} {body : List Stmt} {wi : WI} {g : WG} {tb : WS} {pos : Pos} (hp : PassesOwn (model X.prog X.w) X.A X.env X.xe) (hc : X.calm = true) (hi : QI X W tg iter wi) (hg : QG X tg g) (hb : QSs X W body tb)
    (hs : ∀ x, foldedSetIterable iter X.env x = pure x := by intro _; rfl) : QS X W (.For tg iter body [] pos) (wFor wi g tb) := PS.imp (ps_for hp hc hi hg hb hs) fun D σ H ⟨p, σd, l, Dd, hH, R, hw, k⟩ => by
  subst hH
  refine cI_ok R hw k.link fun I l1 J p1 e1 R1 it q1 => ?_
  obtain ⟨Iv, h0, hok, hturn, hend⟩ := q1
  refine ⟨fun i m σ' H' => m = I.xs.length - i ∧ i ≤ I.xs.length ∧ ∃ p2 σd2 l2, p2.H = H' ∧ Ext p1 p2 ∧ Rel X.K p2 σ' σd2 l2 ∧ Iv i σd2 l2, ⟨_, rfl, Nat.zero_le _, p1, σd, l1, rfl, Ext.refl _, R1, h0⟩, ?_⟩
  rintro i m σ2 H2 ⟨rfl, hi, p2, σd2, l2, rfl, e2, R2, q2⟩
  obtain ⟨i1, i2, i3⟩ := it p2 l2 e2 R2.wf R2.ce (hok _ _ _ q2) i
  by_cases hlt : i < I.xs.length
  · refine .inr ⟨i2 hlt, fun σ' H' => ∃ p2 σd2 l2, p2.H = H' ∧ Ext p1 p2 ∧ Rel X.K p2 σ' σd2 l2 ∧ Iv (i + 1) σd2 l2, fun σ' H' hN => ⟨I.xs.length - (i + 1), by omega, rfl, hlt, hN⟩, fun x H' hy => ?_⟩
    obtain ⟨p3, rfl, e3, w3, c3, r3⟩ := i3 x H' _ (List.getElem?_eq_getElem hlt) hy
    have R3 := R2.ext e3 w3 c3
    refine cG_ok (d := .d _) R3 r3 (hturn i _ σd2 l2 (List.getElem?_eq_getElem hlt) q2) fun p4 σ4 σd4 l4 e4 R4 q4 => cS_ok R4 q4 ?_
    have E4 := ((e1.trans e2).trans e3).trans e4
    have F4 := (e2.trans e3).trans e4
    exact ⟨fun p' σ' σd' l' e R q => ⟨p', σd', l', rfl, F4.trans e, R, q⟩, fun p' a b c e => k.nx p' a b c (E4.trans e), fun p' σ' σd' l' e R q => ⟨p', σd', l', rfl, F4.trans e, R, q⟩,
      fun p' a b c e => k.rt p' a b c (E4.trans e), fun p' a b c d f g e => k.ex p' a b c d f g (E4.trans e)⟩
  · have : i = I.xs.length := by omega
    subst this
    exact .inl ⟨i1 (Nat.le_refl _), k.nx p2 σ2 σd2 l2 (e1.trans e2) R2 (hend _ _ q2)⟩
/-! ### while -/
def kLess (Iv : Nat → SS → LS → Prop) (m : Nat) (σ : SS) (l : LS) : Prop := ∃ m', m' < m ∧ Iv m' σ l
def kWh (tb : WS) (D : ED) (N : SS → LS → Prop) (σ : SS) (b : Bool) (l : LS) : Prop := if b = true then tb { D with nx := N, ct := N, bk := D.nx } σ l else D.nx σ l
def whileP (wt : WT) (tb : WS) (D : ED) (σ : SS) (l : LS) : Prop := ∃ Iv : Nat → SS → LS → Prop, (∃ m, Iv m σ l) ∧ ∀ m σ l, Iv m σ l → wt σ l (kWh tb D (kLess Iv m) σ) (exK D σ)
theorem qs_while {c : Expr} {body : List Stmt} {wt : WT} {tb : WS} {pos : Pos} (hp : PassesOwn (model X.prog X.w) X.A X.env X.xe) (hc : QT X W c wt) (hb : QSs X W body tb) : QS X W (.While c body [] pos) (whileP wt tb) := PS.imp (ps_while hp hc hb) fun D σ H ⟨p, σd, l, Dd, hH, R, hw, k⟩ => by
  subst hH
  obtain ⟨Iv, ⟨m0, h0⟩, turn⟩ := hw
  refine ⟨fun m σ' H' => ∃ p2 σd2 l2, p2.H = H' ∧ Ext p p2 ∧ Rel X.K p2 σ' σd2 l2 ∧ Iv m σd2 l2, ⟨m0, p, σd, l, rfl, Ext.refl _, R, h0⟩, ?_⟩
  rintro m σ2 H2 ⟨p2, σd2, l2, rfl, e2, R2, q2⟩
  refine cT_ok R2 (turn m σd2 l2 q2) (k.mono e2).link fun b l3 p3 e3 R3 q3 => ?_
  have E3 := e2.trans e3
  cases b with
  | true =>
    unfold kWh at q3
    rw [if_pos rfl] at q3 ⊢
    refine ⟨fun σ' H' => ∃ m', m' < m ∧ ∃ p2 σd2 l2, p2.H = H' ∧ Ext p p2 ∧ Rel X.K p2 σ' σd2 l2 ∧ Iv m' σd2 l2, fun σ' H' h => h, cS_ok R3 q3 ?_⟩
    exact ⟨fun p' σ' σd' l' e R ⟨m', hm, q⟩ => ⟨m', hm, p', σd', l', rfl, E3.trans e, R, q⟩, fun p' a b c e => k.nx p' a b c (E3.trans e), fun p' σ' σd' l' e R ⟨m', hm, q⟩ => ⟨m', hm, p', σd', l', rfl, E3.trans e, R, q⟩,
      fun p' a b c e => k.rt p' a b c (E3.trans e), fun p' a b c d f g e => k.ex p' a b c d f g (E3.trans e)⟩
  | false =>
    unfold kWh at q3
    rw [if_neg Bool.false_ne_true] at q3 ⊢
    exact k.nx p3 σ2 σd2 l3 E3 R3 q3
end

/-! ### list comprehensions -/
def wipeD (σ : SS) : List Nat → SS
  | [] => σ
  | v :: vs => (wipeD σ vs).set v none
theorem Slots.wipe {K : PySem.W.Frag} {p : Pt} {σ : St} {σd : SS} (h : Slots K p σd σ) : ∀ vs : List Nat, Slots K p (wipeD σd vs) (wipe σ vs)
  | [] => h
  | v :: vs => (Slots.wipe h vs).setNone
/-- I the invariant by the turn, what is made so far, the cells -/
def kEl (N : List D → LS → Prop) (acc : List D) (y : P) (l : LS) : Prop := match y with
  | .d y => N (acc ++ [y]) l
  | _ => False
def kTs (te : WE) (N : List D → LS → Prop) (acc : List D) (σ : SS) (b : Bool) (l : LS) : Prop := if b = true then te σ l (kEl N acc) noEx else N acc l
def kLcT (tt : WT) (te : WE) (vs : List Nat) (σ : SS) (N : List D → LS → Prop) (acc : List D) (σ2 : SS) (l : LS) : Prop := wipeD σ2 vs = wipeD σ vs ∧ tt σ2 l (kTs te N acc σ2) noEx
def lcP (I : Items) (g : WG) (tt : WT) (te : WE) (vs : List Nat) (f : Fresh) (σ : SS) (l : LS) (Q : P → LS → Prop) : Prop := ∃ Iv : Nat → List D → LS → Prop, Iv 0 [] l ∧ (∀ i acc l, Iv i acc l → I.ok l ∧ acc.length < sizeLine) ∧
  (∀ i x acc l, I.xs[i]? = some x → Iv i acc l → g (.d x) (wipeD σ vs) l (kLcT tt te vs σ (Iv (i + 1)) acc)) ∧ ∀ acc l, Iv I.xs.length acc l → freshL f acc l Q
def kLc (g : WG) (tt : WT) (te : WE) (vs : List Nat) (f : Fresh) (σ : SS) (Q : P → LS → Prop) (I : Items) (l : LS) : Prop := lcP I g tt te vs f σ l Q
def wLc (wi : WI) (g : WG) (tt : WT) (te : WE) (vs : List Nat) (f : Fresh) (σ : SS) (l : LS) (Q : P → LS → Prop) (E : EK) : Prop := wi σ l (kLc g tt te vs f σ Q) E
abbrev W0 : WX := fun _ _ _ _ => False
def QTs (X : Cx) (W : WX) (es : List Expr) (w : WT) : Prop := PTs X es (cT X.K W w)
def wYes (_ : SS) (l : LS) (Q : Bool → LS → Prop) (_ : EK) : Prop := Q true l
theorem qts_nil {X : Cx} {W : WX} : QTs X W [] wYes := by
  have h : PTs X [] tYes := pts_nil
  exact ⟨fun pins s σ H Q I ⟨p, σd, l, Qd, Ed, hH, R, hw, k, lk⟩ => h.run pins s σ H Q I (by subst hH; exact k true l p (Ext.refl p) R hw)⟩
theorem qts_one {X : Cx} {W : WX} {c : Expr} {w : WT} (h : QT X W c w) : QTs X W [c] w := pts_one h
/-! targets that store in some slots alone -/
def cGv (K : PySem.W.Frag) (vs : List Nat) (w : WG) : TG := fun v σ H Q => ∃ (p : Pt) (σd : SS) (l : LS) (d : P) (Qd : SS → LS → Prop), p.H = H ∧ Rel K p σ σd l ∧ RP K p d v ∧ w d σd l Qd ∧
  (∀ p' σ' σd' l', Ext p p' → Rel K p' σ' σd' l' → σ'.length = σ.length → (∀ i, i ∉ vs → σ'[i]? = σ[i]?) → Qd σd' l' → Q σ' p'.H)
def cGvs (K : PySem.W.Frag) (vs : List Nat) (w : WGs) : TGs := fun us σ H Q => ∃ (p : Pt) (σd : SS) (l : LS) (ds : List D) (Qd : SS → LS → Prop), p.H = H ∧ Rel K p σ σd l ∧ RDs K p ds us ∧ w ds σd l Qd ∧
  (∀ p' σ' σd' l', Ext p p' → Rel K p' σ' σd' l' → σ'.length = σ.length → (∀ i, i ∉ vs → σ'[i]? = σ[i]?) → Qd σd' l' → Q σ' p'.H)
def QGv (X : Cx) (vs : List Nat) (tg : Expr) (w : WG) : Prop := PG X tg (cGv X.K vs w)
def QGvs (X : Cx) (vs : List Nat) (ts : List Expr) (w : WGs) : Prop := PGs X ts (cGvs X.K vs w)
section
variable {X : Cx} {vs : List Nat} {e : Expr} {pos : Pos}
theorem qgv_name {i : Nat} {x : Str} (hv : i ∈ vs) (hN : X.N.Nodup) (hi : X.N[i]? = some x) (hx : Loc X.env.scope x) (hf : X.fn x = true ∨ X.env.scope.names.lookup x = some .local := by first | exact .inl rfl | exact .inr rfl | assumption) : QGv X vs (.Name x pos) (gN i) :=
  PG.imp (pg_name hN hi hx hf) fun v σ H Q ⟨p, σd, l, d, Qd, hH, R, r, hw, k⟩ => by
    subst hH
    exact k p _ _ l (Ext.refl p) (R.set r) (by simp) (fun j hj => List.getElem?_set_ne fun z => hj (by rw [← z]; exact hv)) hw
theorem qgvs_nil : QGvs X vs [] gE := PGs.imp pgs_nil fun vs σ H Q ⟨p, σd, l, ds, Qd, hH, R, r, hw, k⟩ => by
  subst hH
  cases r with
  | nil => exact ⟨rfl, k p _ _ l (Ext.refl p) R rfl (fun _ _ => rfl) hw⟩
  | cons _ _ => cases hw
theorem qgvs_cons {es : List Expr} {g : WG} {gs : WGs} (h1 : QGv X vs e g) (h2 : QGvs X vs es gs) (hs : (assignEach (e :: es) X.env).map (·.2) = assign e X.env :: (assignEach es X.env).map (·.2) := by rfl) : QGvs X vs (e :: es) (gC g gs) :=
  PGs.imp (pgs_cons h1 h2 hs) fun us σ H Q ⟨p, σd, l, ds, Qd, hH, R, r, hw, k⟩ => by
    subst hH
    cases r with
    | nil => cases hw
    | cons h r => exact ⟨_, _, rfl, p, σd, l, .d _, _, rfl, R, h, hw, fun p1 σ1 σd1 l1 e1 R1 z1 z2 q1 => ⟨p1, σd1, l1, _, _, rfl, R1, r.mono e1.hf, q1, fun p2 σ2 σd2 l2 e2 R2 y1 y2 q2 => k p2 σ2 σd2 l2 (e1.trans e2) R2 (y1.trans z1) (fun i hi => (y2 i hi).trans (z2 i hi)) q2⟩⟩
theorem qgv_tup {es : List Expr} {k : Nat} {gs : WGs} {n : Nat} (hc : X.calm = true) (h : QGvs X vs es gs) (hn : (assignEach es X.env).length = n := by rfl) (hst : (assignEach es X.env).findIdx? (·.1) = none := by rfl) : QGv X vs (.Tuple es k pos) (gT n gs) :=
  PG.imp (pg_tup hc h hn hst) fun v σ H Q ⟨p, σd, l, d, Qd, hH, R, r, hw, k⟩ => by
    subst hH
    cases d with
    | d d =>
      cases d with
      | tup ds =>
        cases r with
        | tup h1 h2 => exact ⟨_, _, rfl, h1.sq, h2.len.symm.trans hw.1, p, σd, l, ds, Qd, rfl, R, h2, hw.2, k⟩
      | _ => cases hw
    | _ => cases hw
end
theorem wipe_same {σ σ' : St} (hl : σ'.length = σ.length) : ∀ (vs ws : List Nat), (∀ i, i ∉ vs → i ∉ ws → σ'[i]? = σ[i]?) → (∀ i, i ∉ ws → (wipe σ' vs)[i]? = (wipe σ vs)[i]?)
  | [], ws, h => fun i hi => h i (by simp) hi
  | v :: vs, ws, h => fun i hi => by
    have ih := wipe_same hl vs (v :: ws) (fun i a b => by
      simp only [List.mem_cons, not_or] at b
      exact h i (by simp only [List.mem_cons, not_or]; exact ⟨b.1, a⟩) b.2)
    show ((wipe σ' vs).set v none)[i]? = ((wipe σ vs).set v none)[i]?
    have l1 : (wipe σ' vs).length = (wipe σ vs).length := by rw [wipe_length, wipe_length, hl]
    by_cases e : v = i
    · subst e
      by_cases hv : v < (wipe σ vs).length
      · rw [List.getElem?_set_self hv, List.getElem?_set_self (by rw [l1]; exact hv)]
      · rw [List.getElem?_eq_none (by rw [List.length_set, l1]; omega), List.getElem?_eq_none (by rw [List.length_set]; omega)]
    · rw [List.getElem?_set_ne e, List.getElem?_set_ne e]
      exact ih i (by simp only [List.mem_cons, not_or]; exact ⟨fun z => e z.symm, hi⟩)
theorem wipe_idem {σ σ' : St} {vs : List Nat} (hl : σ'.length = (wipe σ vs).length) (h : ∀ i, i ∉ vs → σ'[i]? = (wipe σ vs)[i]?) : wipe σ' vs = wipe σ vs := by
  apply List.ext_getElem?
  intro i
  have hl' : σ'.length = σ.length := by rw [hl, wipe_length]
  have h1 := wipe_same (σ := σ) (σ' := σ') hl' vs [] (fun i a _ => by
    rw [h i a]
    exact wipe_out a) i (by simp)
  exact h1
/-- the list that grows -/
structure Grow (K : PySem.W.Frag) (p1 p : Pt) (b0 : Addr) (acc : List D) (l : LS) : Prop where
  e : Ext p1 p
  w : WF p
  c : Cells K p l
  nF : ¬ p.F b0
  nr : b0 ∉ p.rho
  at_ : ∃ vs, p.H b0 = some (.lst vs) ∧ RDs K p acc vs
theorem Grow.start {K : PySem.W.Frag} {p1 : Pt} {b0 : Addr} {l : LS} (w : WF p1) (c : Cells K p1 l) (h : p1.H b0 = none) : Grow K p1 ⟨upd p1.H b0 (.lst []), p1.rho, p1.F⟩ b0 [] l := by
  have e : Ext p1 ⟨upd p1.H b0 (.lst []), p1.rho, p1.F⟩ := ⟨⟨[], by simp⟩, fun _ z => .inl z, fun _ z => z, fun _ z => .inl z, fun b o z _ => by
    show upd _ _ _ _ = _
    rw [upd_ne (ne_of_none z h)]; exact z, fun b o z _ => by
    show upd _ _ _ _ = _
    rw [upd_ne (ne_of_none z h)]; exact z, fun b o z => upd_some z⟩
  refine ⟨e, ⟨w.nd, fun a m => ?_, fun a m => ?_⟩, ⟨c.1, fun i d q => ?_⟩, w.nF h, w.nrho h, [], upd_same, .nil⟩
  · obtain ⟨o, z⟩ := w.hs a m
    exact upd_some z
  · obtain ⟨o, z⟩ := w.fs a m
    exact upd_some z
  · obtain ⟨b, h1, h2⟩ := c.2 i d q
    exact ⟨b, h1, h2.mono e (by show upd _ _ _ _ = _; rw [upd_ne fun z => w.nrho h (by rw [← z]; exact List.mem_of_getElem? h1)]) fun z => z⟩
theorem Grow.go {K : PySem.W.Frag} {p1 p p' : Pt} {b0 : Addr} {acc : List D} {l l' : LS} (g : Grow K p1 p b0 acc l) (e : Ext p p') (w : WF p') (c : Cells K p' l') : Grow K p1 p' b0 acc l' := by
  obtain ⟨vs, h1, h2⟩ := g.at_
  refine ⟨g.e.trans e, w, c, fun z => ?_, fun z => ?_, vs, e.keep _ _ h1 g.nr, h2.mono e.hf⟩
  · rcases e.fn b0 z with z | z | z
    · exact g.nF z
    · rw [h1] at z; cases z
    · exact g.nr z
  · rcases e.new b0 z with z | z
    · exact g.nr z
    · rw [h1] at z; cases z
theorem Grow.add {K : PySem.W.Frag} {p1 p : Pt} {b0 : Addr} {acc : List QL.D} {l : LS} {y : QL.D} {v : V} (g : Grow K p1 p b0 acc l) (n1 : p1.H b0 = none) (r : RD K p y v) : ∃ vs, p.H b0 = some (.lst vs) ∧ vs.length = acc.length ∧
    Grow K p1 ⟨upd p.H b0 (.lst (vs ++ [v])), p.rho, p.F⟩ b0 (acc ++ [y]) l := by
  obtain ⟨vs, h1, h2⟩ := g.at_
  have hf : HF p ⟨upd p.H b0 (.lst (vs ++ [v])), p.rho, p.F⟩ := ⟨fun _ z => z, fun b o z f => by
    show upd _ _ _ _ = _
    rw [upd_ne fun q => g.nF (by rw [← q]; exact f)]; exact z⟩
  refine ⟨vs, h1, h2.len.symm, ⟨g.e.pre, g.e.new, g.e.fm, g.e.fn, fun b o z n => ?_, fun b o z n => ?_, fun b o z => ?_⟩, ⟨g.w.nd, fun a m => ?_, fun a m => ?_⟩, ⟨g.c.1, fun i d q => ?_⟩, g.nF, g.nr, _, upd_same, (h2.append (.cons r .nil)).mono hf⟩
  · show upd _ _ _ _ = _
    rw [upd_ne (ne_of_none z n1)]; exact g.e.keep b o z n
  · show upd _ _ _ _ = _
    rw [upd_ne (ne_of_none z n1)]; exact g.e.keepF b o z n
  · obtain ⟨o', z'⟩ := g.e.there b o z
    exact upd_some z'
  · obtain ⟨o, z⟩ := g.w.hs a m
    exact upd_some z
  · obtain ⟨o, z⟩ := g.w.fs a m
    exact upd_some z
  · obtain ⟨b, q1, q2⟩ := g.c.2 i d q
    have nb : b ≠ b0 := fun z => g.nr (by rw [← z]; exact List.mem_of_getElem? q1)
    refine ⟨b, q1, ?_⟩
    cases d with
    | lst xs =>
      obtain ⟨nf, us, q3, q4⟩ := q2
      exact ⟨nf, us, by show upd _ _ _ _ = _; rw [upd_ne nb]; exact q3, q4.mono hf⟩
    | frz xs =>
      obtain ⟨us, q3, q4⟩ := q2
      exact ⟨us, q3.mono hf, q4.mono hf⟩
theorem Grow.end_ {K : PySem.W.Frag} {p1 p : Pt} {b0 : Addr} {acc : List QL.D} {l : LS} {f : Fresh} {Qd : P → LS → Prop} {Q : VK} (g : Grow K p1 p b0 acc l) (n1 : p1.H b0 = none) (q : freshL f acc l Qd)
    (k : ∀ d l' v p', Ext p1 p' → WF p' → Cells K p' l' → RP K p' d v → Qd d l' → Q v p'.H) : Q (.ref b0) p.H := by
  obtain ⟨vs, h1, h2⟩ := g.at_
  cases f with
  | frz =>
    have hf : HF p ⟨p.H, p.rho, fun b => p.F b ∨ b = b0⟩ := ⟨fun _ z => .inl z, fun b o z f => z⟩
    refine k (.d (.lst acc)) l (.ref b0) ⟨p.H, p.rho, fun b => p.F b ∨ b = b0⟩ ⟨g.e.pre, g.e.new, fun _ z => .inl (g.e.fm _ z), fun a z => ?_, g.e.keep, g.e.keepF, g.e.there⟩ ⟨g.w.nd, g.w.hs, fun a m => ?_⟩ ⟨g.c.1, fun i d q => ?_⟩ (show RP K ⟨p.H, p.rho, fun b => p.F b ∨ b = b0⟩ (.d (.lst acc)) (.ref b0) from RD.lst ⟨Or.inr rfl, h1⟩ (h2.mono hf)) q
    · rcases z with z | z
      · exact g.e.fn a z
      · exact .inr (.inl (by rw [z]; exact n1))
    · rcases m with m | m
      · exact g.w.fs a m
      · exact ⟨_, by rw [m]; exact h1⟩
    · obtain ⟨b, q1, q2⟩ := g.c.2 i d q
      have nb : b ≠ b0 := fun z => g.nr (by rw [← z]; exact List.mem_of_getElem? q1)
      refine ⟨b, q1, ?_⟩
      cases d with
      | lst xs =>
        obtain ⟨nf, us, q3, q4⟩ := q2
        exact ⟨fun z => z.elim nf nb, us, q3, q4.mono hf⟩
      | frz xs =>
        obtain ⟨us, q3, q4⟩ := q2
        exact ⟨us, q3.mono hf, q4.mono hf⟩
  | cell =>
    have hf : HF p ⟨p.H, p.rho ++ [b0], p.F⟩ := ⟨fun _ z => z, fun b o z f => z⟩
    obtain ⟨t, ht⟩ := g.e.pre
    have q : Qd (.loc l.length) (l ++ [.lst acc]) := q
    refine k (.loc l.length) (l ++ [.lst acc]) (.ref b0) ⟨p.H, p.rho ++ [b0], p.F⟩ ⟨⟨t ++ [b0], by show p.rho ++ [b0] = _; rw [ht, List.append_assoc]⟩, fun a z => ?_, g.e.fm, g.e.fn, g.e.keep, g.e.keepF, g.e.there⟩ ⟨?_, fun a m => ?_, g.w.fs⟩ ⟨by simp [g.c.1], fun i d q => ?_⟩
      (show RP K ⟨p.H, p.rho ++ [b0], p.F⟩ (.loc l.length) (.ref b0) from ⟨b0, by
        show (p.rho ++ [b0])[l.length]? = some b0
        rw [g.c.1, List.getElem?_append_right (Nat.le_refl _)]
        simp, rfl⟩) q
    · rcases List.mem_append.mp z with z | z
      · exact g.e.new a z
      · simp at z
        exact .inr (by rw [z]; exact n1)
    · show (p.rho ++ [b0]).Nodup
      rw [List.nodup_append]
      refine ⟨g.w.nd, by simp, fun x hx y hy e => ?_⟩
      simp at hy
      subst hy; subst e
      exact g.nr hx
    · rcases List.mem_append.mp m with m | m
      · exact g.w.hs a m
      · simp at m
        exact ⟨_, by rw [m]; exact h1⟩
    · by_cases hi : i < l.length
      · rw [List.getElem?_append_left hi] at q
        obtain ⟨b, q1, q2⟩ := g.c.2 i d q
        refine ⟨b, ?_, ?_⟩
        · show (p.rho ++ [b0])[i]? = _
          rw [List.getElem?_append_left (by rw [← g.c.1]; exact hi)]
          exact q1
        · cases d with
          | lst xs =>
            obtain ⟨nf, us, q3, q4⟩ := q2
            exact ⟨nf, us, q3, q4.mono hf⟩
          | frz xs =>
            obtain ⟨us, q3, q4⟩ := q2
            exact ⟨us, q3.mono hf, q4.mono hf⟩
      · have hi' : i = l.length := by
          have := (List.getElem?_eq_some_iff.mp q).1
          simp at this
          omega
        subst hi'
        rw [List.getElem?_append_right (Nat.le_refl _)] at q
        simp at q
        subst q
        refine ⟨b0, ?_, g.nF, vs, h1, h2.mono hf⟩
        show (p.rho ++ [b0])[l.length]? = _
        rw [g.c.1, List.getElem?_append_right (Nat.le_refl _)]
        simp
section
variable {X : Cx} {W : WX} {elt tg iter : Expr} {ifs : List Expr} {scope : Scope} {own : List (Str × Nat)} {pos : Pos} {wi : WI} {g : WG} {tt : WT} {te : WE}
theorem lc_ok {f : Fresh} {σ : St} {H : Hp} {Q : VK} (h : cE X.K W (wLc wi g tt te (own.map (·.2)) f) σ H Q) : tLc (cI X.K W wi) (cGv X.K (own.map (·.2)) g) (cT X.K W0 tt) (cE X.K W0 te) (own.map (·.2)) σ H Q := by
  obtain ⟨p, σd, l, Qd, Ed, hH, R, hw, k, lk⟩ := h
  subst hH
  refine cI_ok R hw lk fun I l1 J p1 e1 R1 it q1 D hD => ?_
  obtain ⟨Iv, h0, hok, hturn, hend⟩ := q1
  refine ⟨fun i m H' => m = I.xs.length - i ∧ i ≤ I.xs.length ∧ ∃ p2 l2 acc, p2.H = H' ∧ Grow X.K p1 p2 D acc l2 ∧ Iv i acc l2, ⟨_, rfl, Nat.zero_le _, _, l1, [], rfl, Grow.start R1.wf R1.ce hD, h0⟩, ?_⟩
  rintro i m H2 ⟨rfl, hi, p2, l2, acc, rfl, G2, q2⟩
  obtain ⟨ok2, sz2⟩ := hok _ _ _ q2
  obtain ⟨i1, i2, i3⟩ := it p2 l2 G2.e G2.w G2.c ok2 i
  by_cases hlt : i < I.xs.length
  · refine .inr ⟨i2 hlt, fun H' => ∃ p2 l2 acc, p2.H = H' ∧ Grow X.K p1 p2 D acc l2 ∧ Iv (i + 1) acc l2, fun H' hN => ⟨I.xs.length - (i + 1), by omega, rfl, hlt, hN⟩, fun x H' hy => ?_⟩
    obtain ⟨p3, rfl, e3, w3, c3, r3⟩ := i3 x H' _ (List.getElem?_eq_getElem hlt) hy
    have G3 := G2.go e3 w3 c3
    have R3 : Rel X.K p3 (wipe σ (own.map (·.2))) (wipeD σd (own.map (·.2))) l2 := ⟨w3, ((R1.sl.mono G3.e).wipe _), c3⟩
    refine ⟨p3, _, l2, .d _, _, rfl, R3, r3, hturn i _ acc l2 (List.getElem?_eq_getElem hlt) q2, fun p4 σ4 σd4 l4 e4 R4 z1 z2 q4 => ⟨wipe_idem z1 z2, ?_⟩⟩
    have G4 := G3.go e4 R4.wf R4.ce
    refine cT_ok R4 q4.2 LinkE.never fun b l5 p5 e5 R5 q5 => ?_
    have G5 := G4.go e5 R5.wf R5.ce
    cases b with
    | true =>
      unfold kTs at q5
      rw [if_pos rfl] at q5 ⊢
      refine cE_ok R5 q5 LinkE.never fun y l6 v p6 e6 R6 r6 q6 => ?_
      have G6 := G5.go e6 R6.wf R6.ce
      unfold kEl at q6
      split at q6
      · rename_i y
        obtain ⟨vs, h1, h2, G7⟩ := G6.add hD r6
        exact ⟨vs, h1, by rw [h2]; exact sz2, _, l6, _, rfl, G7, q6⟩
      · exact q6.elim
    | false =>
      unfold kTs at q5
      rw [if_neg Bool.false_ne_true] at q5 ⊢
      exact ⟨p5, l5, acc, rfl, G5, q5⟩
  · have : i = I.xs.length := by omega
    subst this
    exact .inl ⟨i1 (Nat.le_refl _), G2.end_ hD (hend _ _ q2) fun d l' v p' e' w' c' r' q' => k d l' v p' (e1.trans e') (R1.ext e' w' c') r' q'⟩
theorem qe_lc {f : Fresh} (hc : X.calm = true) (hN : X.N.Nodup) (hi : QI X W tg iter wi) (ok : BlkOk X.N X.env.scope scope own)
    (hg : ∀ (s : Shared) (H : Hp) (C : Addr) (cl : List (Str × Addr)) (fp : List Addr), QGv (X.blk s H scope (compEnvC scope cl C X.env) fp) (own.map (·.2)) tg g) (ht : ∀ (s : Shared) (H : Hp) (C : Addr) (cl : List (Str × Addr)) (fp : List Addr), QTs (X.blk s H scope (compEnvC scope cl C X.env) fp) W0 ifs tt)
    (he : ∀ (s : Shared) (H : Hp) (C : Addr) (cl : List (Str × Addr)) (fp : List Addr), QE (X.blk s H scope (compEnvC scope cl C X.env) fp) W0 elt te) (hs : ∀ x, foldedSetIterable iter X.env x = pure x := by intro _; rfl) :
    QE X W (.ListComp elt [⟨tg, iter, ifs, 0⟩] scope pos) (wLc wi g tt te (own.map (·.2)) f) :=
  PE.imp (pe_lc (own := own) (g := cGv X.K (own.map fun q : Str × Nat => q.2) g) (tt := cT X.K W0 tt) (te := cE X.K W0 te) hc hN hi ok hg ht he hs) fun σ H Q h => lc_ok h
theorem qs_setLc {f : Fresh} {i : Nat} {y : Str} {py spos : Pos} (hc : X.calm = true) (hN : X.N.Nodup) (hy : X.N[i]? = some y) (hyl : X.env.scope.names.lookup y = some .local)
    (hsw : swapsWith (.ListComp elt [⟨tg, iter, ifs, 0⟩] scope pos) (some (.Name y py)) spos.line X.env = pure true) (hi : QI X W tg iter wi) (ok : BlkOk X.N X.env.scope scope own)
    (hg : ∀ (s : Shared) (H : Hp) (C : Addr) (cl : List (Str × Addr)) (fp : List Addr), QGv (X.blk s H scope (compEnvC scope cl C X.env) fp) (own.map (·.2)) tg g) (ht : ∀ (s : Shared) (H : Hp) (C : Addr) (cl : List (Str × Addr)) (fp : List Addr), QTs (X.blk s H scope (compEnvC scope cl C X.env) fp) W0 ifs tt)
    (he : ∀ (s : Shared) (H : Hp) (C : Addr) (cl : List (Str × Addr)) (fp : List Addr), QE (X.blk s H scope (compEnvC scope cl C X.env) fp) W0 elt te) (hs : ∀ x, foldedSetIterable iter X.env x = pure x := by intro _; rfl) :
    QS X W (.Assign [.Name y py] (.ListComp elt [⟨tg, iter, ifs, 0⟩] scope pos) spos) (wAsg (wLc wi g tt te (own.map (·.2)) f) (gN i)) :=
  PS.imp (ps_setLc (own := own) (g := cGv X.K (own.map fun q : Str × Nat => q.2) g) (tt := cT X.K W0 tt) (te := cE X.K W0 te) hc hN hy hyl hsw hi ok hg ht he hs) fun D σ H ⟨p, σd, l, Dd, hH, R, hw, k⟩ => by
    subst hH
    exact lc_ok (X := X) (W := W) (cE_ok R hw k.link fun x l1 v p1 e1 R1 r1 q1 => k.nx p1 _ _ l1 e1 (R1.set r1) q1)
end
/-! ### defs -/
abbrev FS := List P → LS → (P → LS → Prop) → EK → Prop
/-- a def's promise over plain data: p has the arguments' cells alone -/
def spQ (K : PySem.W.Frag) (n : Nat) (fs : FS) : Sp := fun vs H Q E => ∃ (p : Pt) (ds : List P) (l : LS) (Qd : P → LS → Prop) (Ed : EK), p.H = H ∧ WF p ∧ Cells K p l ∧ RPs K p ds vs ∧ ds.length = n ∧ fs ds l Qd Ed ∧
  (∀ d l' v p', Ext p p' → WF p' → Cells K p' l' → RP K p' d v → Qd d l' → Q v p'.H) ∧ (∀ ex l' cls dd p', Ext p p' → WF p' → Cells K p' l' → XR K p' ex cls dd → Ed ex l' → E cls dd p'.H)
/-- what comes back: the arguments' cells, then the cell of a new list that is handed back -/
def retN (n : Nat) (Qd : P → LS → Prop) (r : P) (l : LS) : Prop := match r with
  | .d x => Qd (.d x) (l.take n)
  | .loc j => if j < n then Qd (.loc j) (l.take n) else match l[j]? with
    | some c => Qd (.loc n) (l.take n ++ [c])
    | none => False
  | .exc _ _ _ _ => False
def kEnd (n : Nat) (Qd : P → LS → Prop) (_ : SS) (l : LS) : Prop := retN n Qd (.d .non) l
def kNever (_ : SS) (_ : LS) : Prop := False
def kEx (Ed : EK) (ex : Ex) (_ : SS) (l : LS) : Prop := Ed ex l
theorem CellOk.hf {K : PySem.W.Frag} {p p' : Pt} {c : Cell} {b : Addr} (h : CellOk K p c b) (e : HF p p') (k : p'.H b = p.H b) (kf : p'.F b → p.F b) : CellOk K p' c b := by
  cases c with
  | lst xs =>
    obtain ⟨nf, vs, h1, h2⟩ := h
    exact ⟨fun z => nf (kf z), vs, by rw [k]; exact h1, h2.mono e⟩
  | frz xs =>
    obtain ⟨vs, h1, h2⟩ := h
    exact ⟨vs, h1.mono e, h2.mono e⟩
theorem cut_ok {K : PySem.W.Frag} {p p' : Pt} {l : LS} (e : Ext p p') (w : WF p') (c : Cells K p' l) : ∃ p2 : Pt, p2.H = p'.H ∧ p2.F = p'.F ∧ p2.rho = p.rho ∧ Ext p p2 ∧ WF p2 ∧ Cells K p2 (l.take p.rho.length) ∧ HF p' p2 := by
  obtain ⟨t, ht⟩ := e.pre
  refine ⟨⟨p'.H, p.rho, p'.F⟩, rfl, rfl, rfl, ⟨⟨[], by simp⟩, fun _ z => .inl z, e.fm, e.fn, e.keep, e.keepF, e.there⟩, ⟨?_, fun a m => w.hs a (by rw [ht]; exact List.mem_append_left _ m), w.fs⟩, ⟨?_, fun i d q => ?_⟩, ⟨fun _ z => z, fun _ _ z _ => z⟩⟩
  · have nd := w.nd
    rw [ht, List.nodup_append] at nd
    exact nd.1
  · rw [List.length_take, c.1, ht, List.length_append]
    show min p.rho.length (p.rho.length + t.length) = p.rho.length
    omega
  · have hi : i < p.rho.length := by
      have := (List.getElem?_eq_some_iff.mp q).1
      rw [List.length_take] at this
      omega
    rw [List.getElem?_take_of_lt hi] at q
    obtain ⟨a, h1, h2⟩ := c.2 i d q
    rw [ht, List.getElem?_append_left hi] at h1
    refine ⟨a, h1, ?_⟩
    exact h2.hf ⟨fun _ z => z, fun _ _ z _ => z⟩ rfl fun z => z
theorem ret_ok {K : PySem.W.Frag} {p p' : Pt} {l : LS} {r : P} {v : V} {n : Nat} {Qd : P → LS → Prop} {Q : VK} (e : Ext p p') (w : WF p') (c : Cells K p' l) (rr : RP K p' r v) (hn : p.rho.length = n) (h : retN n Qd r l)
    (k : ∀ d l' v p', Ext p p' → WF p' → Cells K p' l' → RP K p' d v → Qd d l' → Q v p'.H) : Q v p'.H := by
  subst hn
  obtain ⟨p2, hH, hF, hr, e2, w2, c2, hf⟩ := cut_ok e w c
  unfold retN at h
  split at h
  · rename_i x
    have r2 : RP K p2 (.d x) v := RD.mono hf rr
    rw [← hH]
    exact k _ _ _ _ e2 w2 c2 r2 h
  · rename_i j
    obtain ⟨a, h1, rfl⟩ := rr
    obtain ⟨t, ht⟩ := e.pre
    split at h
    · rename_i hj
      rw [← hH]
      refine k (.loc j) _ _ _ e2 w2 c2 (show RP K p2 (.loc j) (.ref a) from ⟨a, ?_, rfl⟩) h
      rw [hr]
      rw [ht, List.getElem?_append_left hj] at h1
      exact h1
    · rename_i hj
      split at h
      · rename_i cl hcl
        obtain ⟨b, h2, h3⟩ := c.2 j cl hcl
        rw [h1] at h2
        cases h2
        have na : a ∉ p.rho := fun m => by
          obtain ⟨i, hi1⟩ := List.getElem?_of_mem m
          have hi2 : i < p.rho.length := (List.getElem?_eq_some_iff.mp hi1).1
          have hi3 : p'.rho[i]? = some a := by rw [ht, List.getElem?_append_left hi2]; exact hi1
          have := nodup_at w.nd hi3 h1
          omega
        have hf3 : HF p' ⟨p'.H, p.rho ++ [a], p'.F⟩ := ⟨fun _ z => z, fun _ _ z _ => z⟩
        have pa : p.H a = none := by
          rcases e.new a (List.mem_of_getElem? h1) with z | z
          · exact absurd z na
          · exact z
        refine k (.loc p.rho.length) (l.take p.rho.length ++ [cl]) _ ⟨p'.H, p.rho ++ [a], p'.F⟩ ⟨⟨[a], rfl⟩, fun b z => ?_, e.fm, e.fn, e.keep, e.keepF, e.there⟩ ⟨?_, fun b m => ?_, w.fs⟩ ⟨?_, fun i d q => ?_⟩ (show RP K ⟨p'.H, p.rho ++ [a], p'.F⟩ (.loc p.rho.length) (.ref a) from ⟨a, by
          show (p.rho ++ [a])[p.rho.length]? = _
          rw [List.getElem?_append_right (Nat.le_refl _)]
          simp, rfl⟩) h
        · rcases List.mem_append.mp z with z | z
          · exact .inl z
          · simp at z; exact .inr (by rw [z]; exact pa)
        · show (p.rho ++ [a]).Nodup
          rw [List.nodup_append]
          refine ⟨?_, by simp, fun x hx y hy q => ?_⟩
          · have nd := w.nd
            rw [ht, List.nodup_append] at nd
            exact nd.1
          · simp at hy
            subst hy; subst q
            exact na hx
        · rcases List.mem_append.mp m with m | m
          · exact w.hs b (by rw [ht]; exact List.mem_append_left _ m)
          · simp at m
            exact w.hs b (by rw [m]; exact List.mem_of_getElem? h1)
        · have := c2.1
          rw [hr] at this
          simp [this]
        · by_cases hi : i < p.rho.length
          · have hi' : i < (l.take p.rho.length).length := by rw [c2.1, hr]; exact hi
            rw [List.getElem?_append_left hi'] at q
            obtain ⟨b, q1, q2⟩ := c2.2 i d q
            rw [hr] at q1
            refine ⟨b, ?_, ?_⟩
            · show (p.rho ++ [a])[i]? = _
              rw [List.getElem?_append_left hi]; exact q1
            · exact q2.hf ⟨fun _ z => by show p'.F _; rw [← hF]; exact z, fun b o z _ => by show p'.H b = _; rw [← hH]; exact z⟩ (by show p'.H b = _; rw [hH]) fun z => by rw [hF]; exact z
          · have hl : (l.take p.rho.length).length = p.rho.length := by rw [c2.1, hr]
            have hi' : i = p.rho.length := by
              have := (List.getElem?_eq_some_iff.mp q).1
              simp only [List.length_append, hl, List.length_singleton] at this
              omega
            subst hi'
            rw [List.getElem?_append_right (by rw [hl]; exact Nat.le_refl _), hl] at q
            simp at q
            subst q
            refine ⟨a, ?_, ?_⟩
            · show (p.rho ++ [a])[p.rho.length]? = _
              rw [List.getElem?_append_right (Nat.le_refl _)]
              simp
            · exact h3.hf hf3 rfl fun z => z
      · exact h.elim
  · exact h.elim
/-- the names at the entry -/
def startD (N : List Str) (ds : List P) : SS := ds.map some ++ List.replicate (N.length - ds.length) none
theorem start_sl {K : PySem.W.Frag} {p : Pt} {N : List Str} {ds : List P} {vs : List V} (h : RPs K p ds vs) : Slots K p (startD N ds) (L2.start N vs) := by
  have hl : ds.length = vs.length := Paired.length h
  refine ⟨by simp [startD, L2.start, hl], fun i d q => ?_⟩
  unfold startD at q
  by_cases hi : i < ds.length
  · rw [List.getElem?_append_left (by simpa using hi), List.getElem?_map] at q
    cases e : ds[i]? with
    | none => rw [e] at q; cases q
    | some d' =>
      rw [e] at q
      cases q
      have : ∀ {ds : List P} {vs : List V} {i : Nat}, RPs K p ds vs → ds[i]? = some d → ∃ v, vs[i]? = some v ∧ RP K p d v := by
        intro ds vs i h
        induction h generalizing i with
        | nil => intro e; simp at e
        | cons r _ ih =>
          intro e
          cases i with
          | zero => simp at e; subst e; exact ⟨_, rfl, r⟩
          | succ i => simpa using ih (by simpa using e)
      obtain ⟨v, g1, g2⟩ := this h e
      refine ⟨v, ?_, g2⟩
      unfold L2.start
      rw [List.getElem?_append_left (by simpa using (List.getElem?_eq_some_iff.mp g1).1), List.getElem?_map, g1]
      rfl
  · rw [List.getElem?_append_right (by simpa using hi), List.getElem?_replicate] at q
    split at q <;> cases q
section
variable {P : Program} {w : World} {K : PySem.W.Frag} {mg : Str → Option Value} {base : Heap}
open PyProof.Rows (envOfC) in
/-- THE RULE for a def -/
theorem fun_q {x qual : Str} {st : Stmt} {f : Addr} {fd : FuncData} {N ps : List Str} {k : Nat} {fs : FS} {wb : WS} (F : Fun K x qual st f fd) (S : FnScope N ps (defScope st)) (n : Nat) (hn : n = ps.length)
    (hbody : ∀ (cdv : Value) (A : Around) (outer : List Env) (s : Shared) (H : Hp) (E : XK), Room k (A.deeper (envOfC qual (defScope st) s.heap.objs.size f cdv)) →
      Takes (cxOf (L2.CX P w) P w K mg base N qual (defScope st) f cdv A outer s H E) (fun cls d _ H => E cls d H) →
      QSs (cxOf (L2.CX P w) P w K mg base N qual (defScope st) f cdv A outer s H E) (fun cls d _ H => E cls d H) (defBody st) wb)
    (hw : ∀ ds l Qd Ed, ds.length = n → fs ds l Qd Ed → wb { nx := kEnd l.length Qd, rt := retN l.length Qd, bk := kNever, ct := kNever, ex := kEx Ed } (startD N ds) l) :
    FnOk P w K mg base (L2.CX P w) (k + 1) f fd ps (spQ K n fs) := by
  refine F.okX S (fun vs H Q E h => ?_) fun cdv A outer s H vs Q E hr h => ⟨_, hbody cdv A outer s H E hr (takes_of rfl rfl rfl rfl), ?_⟩
  · obtain ⟨p, ds, l, Qd, Ed, _, _, _, r, e, _⟩ := h
    rw [← Paired.length r, e, hn]
  · obtain ⟨p, ds, l, Qd, Ed, rfl, wf, ce, r, e, hfs, kk, kx⟩ := h
    refine cS_ok ⟨wf, start_sl r, ce⟩ (hw ds l Qd Ed e hfs) ⟨fun p' σ' σd' l' e' R q => ?_, fun _ _ _ _ _ _ q => q.elim, fun _ _ _ _ _ _ q => q.elim, fun p' d v l' e' w' c' r' q => ?_, fun p' σ' σd' l' ex cls dd e' R x q => ?_⟩
    · exact ret_ok (r := .d .non) e' R.wf R.ce RD.non ce.1.symm q kk
    · exact ret_ok e' w' c' r' ce.1.symm q kk
    · exact kx ex l' cls dd p' e' R.wf R.ce x q
end
end QL
set_option Elab.async false
set_option linter.all false
set_option maxRecDepth 100000
set_option maxHeartbeats 4000000
/-! QL6: calls of own defs. -/
namespace QL
open PySem L2

def locsOf : List P → List Nat
  | [] => []
  | .loc n :: r => n :: locsOf r
  | _ :: r => locsOf r
def relab : List P → Nat → List P
  | [], _ => []
  | .loc _ :: r, i => .loc i :: relab r (i + 1)
  | x :: r, i => x :: relab r i
def pick (l : LS) : List Nat → Option LS
  | [] => some []
  | n :: ns => match l[n]?, pick l ns with
    | some c, some cs => some (c :: cs)
    | _, _ => none
def wback : LS → List Nat → LS → LS
  | l, n :: ns, c :: cs => wback (l.set n c) ns cs
  | l, _, _ => l
def callB (ns : List Nat) (l : LS) (Q : P → LS → Prop) (r : P) (cs : LS) : Prop := match r with
  | .d x => Q (.d x) (wback l ns cs)
  | .loc j => if j < ns.length then Q (.loc (ns.getD j 0)) (wback l ns cs) else if j = ns.length then (match cs[ns.length]? with
    | some c => Q (.loc l.length) (wback l ns cs ++ [c])
    | none => False) else False
  | .exc _ _ _ _ => False
def callE (ns : List Nat) (l : LS) (E : EK) (ex : Ex) (cs : LS) : Prop := E ex (wback l ns cs)
def callP (fs : FS) (vs : List P) (l : LS) (Q : P → LS → Prop) (E : EK) : Prop := match pick l (locsOf vs) with
  | some cs => (locsOf vs).Nodup ∧ fs (relab vs 0) cs (callB (locsOf vs) l Q) (callE (locsOf vs) l E)
  | none => False

theorem wback_len : ∀ (ns : List Nat) (l cs : LS), (wback l ns cs).length = l.length
  | [], l, cs => by cases cs <;> rfl
  | n :: ns, l, [] => rfl
  | n :: ns, l, c :: cs => by
    show (wback (l.set n c) ns cs).length = _
    rw [wback_len ns, List.length_set]
theorem wback_out : ∀ (ns : List Nat) (l cs : LS) (i : Nat), i ∉ ns → (wback l ns cs)[i]? = l[i]?
  | [], l, cs, i, _ => by cases cs <;> rfl
  | n :: ns, l, [], i, _ => rfl
  | n :: ns, l, c :: cs, i, h => by
    simp only [List.mem_cons, not_or] at h
    show (wback (l.set n c) ns cs)[i]? = _
    rw [wback_out ns _ cs i h.2, List.getElem?_set_ne fun e => h.1 e.symm]
theorem wback_in : ∀ (ns : List Nat) (l cs : LS) (i j : Nat) (c : Cell), ns.Nodup → ns[j]? = some i → i < l.length → cs[j]? = some c → (wback l ns cs)[i]? = some c
  | [], _, _, _, _, _, _, h, _, _ => by simp at h
  | n :: ns, l, [], i, j, c, _, _, _, h => by simp at h
  | n :: ns, l, d :: cs, i, 0, c, nd, h, hi, hc => by
    simp at h hc
    subst h; subst hc
    show (wback (l.set n d) ns cs)[n]? = _
    rw [wback_out ns _ cs n (List.nodup_cons.mp nd).1, List.getElem?_set_self hi]
  | n :: ns, l, d :: cs, i, j + 1, c, nd, h, hi, hc => by
    show (wback (l.set n d) ns cs)[i]? = _
    exact wback_in ns _ cs i j c (List.nodup_cons.mp nd).2 (by simpa using h) (by simpa using hi) (by simpa using hc)
theorem pick_get : ∀ {ns : List Nat} {l cs : LS}, pick l ns = some cs → cs.length = ns.length ∧ ∀ (j n : Nat), ns[j]? = some n → ∃ c, l[n]? = some c ∧ cs[j]? = some c
  | [], l, cs, h => by
    cases h
    exact ⟨rfl, fun j n h => by simp at h⟩
  | n :: ns, l, cs, h => by
    unfold pick at h
    split at h
    · rename_i c cs' h1 h2
      cases h
      obtain ⟨g1, g2⟩ := pick_get h2
      refine ⟨by simp [g1], fun j m hj => ?_⟩
      cases j with
      | zero => simp at hj; subst hj; exact ⟨c, h1, rfl⟩
      | succ j => simpa using g2 j m (by simpa using hj)
    · cases h
section
variable {K : PySem.W.Frag} {p : Pt} {l : LS}
/-- the addresses of some cells -/
def addrs (p : Pt) (ns : List Nat) : List Addr := ns.map fun n => p.rho.getD n 0
theorem addrs_get {ns : List Nat} {j n : Nat} {a : Addr} (h : ns[j]? = some n) (h2 : p.rho[n]? = some a) : (addrs p ns)[j]? = some a := by
  unfold addrs
  rw [List.getElem?_map, h]
  simp [List.getD, h2]
theorem relab_ok {ns : List Nat} : ∀ {vs : List P} {us : List V} {i : Nat} {t : List Nat}, RPs K p vs us → ns = t ++ locsOf vs → t.length = i → RPs K ⟨p.H, addrs p ns, p.F⟩ (relab vs i) us
  | [], _, _, _, .nil, _, _ => .nil
  | .d x :: r, _, i, t, .cons h q, e, hi => .cons (show RP K ⟨p.H, addrs p ns, p.F⟩ (.d x) _ from RD.mono (p := p) (p' := ⟨p.H, addrs p ns, p.F⟩) ⟨fun _ z => z, fun _ _ z _ => z⟩ h) (relab_ok q e hi)
  | .exc a c dd ex :: r, _, i, t, .cons h q, e, hi => .cons (show RP K ⟨p.H, addrs p ns, p.F⟩ (.exc a c dd ex) _ from ⟨h.1, XR.mono (p := p) (p' := ⟨p.H, addrs p ns, p.F⟩) ⟨fun _ z => z, fun _ _ z _ => z⟩ h.2⟩) (relab_ok q e hi)
  | .loc n :: r, _, i, t, .cons h q, e, hi => by
    obtain ⟨a, h1, rfl⟩ := h
    refine .cons (show RP K ⟨p.H, addrs p ns, p.F⟩ (.loc i) _ from ⟨a, ?_, rfl⟩) (relab_ok (t := t ++ [n]) q (by rw [e]; simp [locsOf]) (by simp [hi]))
    refine addrs_get (n := n) ?_ h1
    rw [e, List.getElem?_append_right (by omega)]
    simp [hi, locsOf]
theorem call_ok {fs : FS} {n : Nat} {vs : List P} {us : List V} {Qd : P → LS → Prop} {Ed : EK} {Q : VK} {E : XK} (w : WF p) (ce : Cells K p l) (r : RPs K p vs us) (hl : vs.length = n) (h : callP fs vs l Qd Ed)
    (k : After K p Qd Q) (kx : ∀ ex l' cls dd p', Ext p p' → WF p' → Cells K p' l' → XR K p' ex cls dd → Ed ex l' → E cls dd p'.H) : spQ K n fs us p.H Q E := by
  unfold callP at h
  split at h
  · rename_i cs hcs
    obtain ⟨nd, hfs⟩ := h
    obtain ⟨gl, gp⟩ := pick_get hcs
    generalize hns : locsOf vs = ns at *
    have lt : ∀ j m, ns[j]? = some m → ∃ a, p.rho[m]? = some a ∧ (addrs p ns)[j]? = some a := fun j m e => by
      obtain ⟨c, h1, _⟩ := gp j m e
      obtain ⟨a, h2, _⟩ := ce.2 m c h1
      exact ⟨a, h2, addrs_get e h2⟩
    have sub : ∀ a ∈ addrs p ns, ∃ (j m : Nat), ns[j]? = some m ∧ p.rho[m]? = some a ∧ (addrs p ns)[j]? = some a := fun a m => by
      obtain ⟨j, hj⟩ := List.getElem?_of_mem m
      have hj1 : j < ns.length := by
        have := (List.getElem?_eq_some_iff.mp hj).1
        simpa [addrs] using this
      obtain ⟨b, h1, h2⟩ := lt j _ (List.getElem?_eq_getElem hj1)
      rw [hj] at h2
      cases h2
      exact ⟨j, _, List.getElem?_eq_getElem hj1, h1, hj⟩
    have wc : WF ⟨p.H, addrs p ns, p.F⟩ := by
      refine ⟨?_, fun a m => ?_, w.fs⟩
      · rw [List.nodup_iff_pairwise_ne, List.pairwise_iff_getElem]
        intro i j hi hj hij e
        have h1 := List.getElem?_eq_getElem hi
        have h2 := List.getElem?_eq_getElem hj
        obtain ⟨a, q1, q2⟩ := lt i _ (List.getElem?_eq_getElem (by simpa [addrs] using hi))
        obtain ⟨b, q3, q4⟩ := lt j _ (List.getElem?_eq_getElem (by simpa [addrs] using hj))
        rw [h1] at q2
        rw [h2] at q4
        cases q2; cases q4
        rw [e] at q1
        have z := nodup_at w.nd q1 q3
        have z2 := (List.getElem_inj nd).mp z
        omega
      · obtain ⟨_, _, _, h1, _⟩ := sub a m
        exact w.hs a (List.mem_of_getElem? h1)
    have cc : Cells K ⟨p.H, addrs p ns, p.F⟩ cs := by
      refine ⟨by simp [addrs, gl], fun j c e => ?_⟩
      have hj : j < ns.length := by rw [← gl]; exact (List.getElem?_eq_some_iff.mp e).1
      obtain ⟨c', h1, h2⟩ := gp j _ (List.getElem?_eq_getElem hj)
      rw [e] at h2
      cases h2
      obtain ⟨a, h3, h4⟩ := ce.2 _ _ h1
      exact ⟨a, addrs_get (List.getElem?_eq_getElem hj) h3, h4.hf ⟨fun _ z => z, fun _ _ z _ => z⟩ rfl fun z => z⟩
    -- back in the caller
    have back : ∀ (p' : Pt) (l' : LS) (t : List Addr) (l2 : LS), Ext ⟨p.H, addrs p ns, p.F⟩ p' → WF p' → Cells K p' l' → (t = [] ∧ l2 = wback l ns l' ∨ ∃ a c, t = [a] ∧ p'.rho[ns.length]? = some a ∧ l'[ns.length]? = some c ∧ l2 = wback l ns l' ++ [c]) →
        Ext p ⟨p'.H, p.rho ++ t, p'.F⟩ ∧ WF ⟨p'.H, p.rho ++ t, p'.F⟩ ∧ Cells K ⟨p'.H, p.rho ++ t, p'.F⟩ l2 := fun p' l' t l2 e w' c' ht => by
      have hnew : ∀ a, a ∈ t → p.H a = none ∧ a ∉ p.rho ∧ ∃ o, p'.H a = some o := fun a m => by
        rcases ht with ⟨rfl, _⟩ | ⟨b, c, rfl, h1, h2, _⟩
        · simp at m
        · simp at m
          subst m
          have hn : p.H a = none := by
            rcases e.new a (List.mem_of_getElem? h1) with z | z
            · exfalso
              obtain ⟨j, hj⟩ := List.getElem?_of_mem z
              obtain ⟨u, hu⟩ := e.pre
              have hj1 : j < (addrs p ns).length := (List.getElem?_eq_some_iff.mp hj).1
              have hj2 : p'.rho[j]? = some a := by rw [hu]; exact (List.getElem?_append_left hj1).trans hj
              have := nodup_at w'.nd hj2 h1
              have hj3 : j < ns.length := by simpa [addrs] using hj1
              omega
            · exact z
          exact ⟨hn, w.nrho hn, w'.hs a (List.mem_of_getElem? h1)⟩
      have hf : HF p' ⟨p'.H, p.rho ++ t, p'.F⟩ := ⟨fun _ z => z, fun _ _ z _ => z⟩
      have E2 : Ext p ⟨p'.H, p.rho ++ t, p'.F⟩ := by
        refine ⟨⟨t, rfl⟩, fun a m => ?_, e.fm, fun a z => ?_, fun b o z n => e.keep b o z fun m => ?_, e.keepF, e.there⟩
        · rcases List.mem_append.mp m with m | m
          · exact .inl m
          · exact .inr (hnew a m).1
        · rcases e.fn a z with z | z | z
          · exact .inl z
          · exact .inr (.inl z)
          · obtain ⟨_, _, _, h1, _⟩ := sub a z
            exact .inr (.inr (List.mem_of_getElem? h1))
        · obtain ⟨_, _, _, h1, _⟩ := sub b m
          exact n (List.mem_of_getElem? h1)
      have W2 : WF ⟨p'.H, p.rho ++ t, p'.F⟩ := by
        refine ⟨?_, fun a m => ?_, w'.fs⟩
        · show (p.rho ++ t).Nodup
          rw [List.nodup_append]
          refine ⟨w.nd, ?_, fun x hx y hy q => (hnew y hy).2.1 (by rw [← q]; exact hx)⟩
          rcases ht with ⟨rfl, _⟩ | ⟨b, c, rfl, _⟩ <;> simp
        · rcases List.mem_append.mp m with m | m
          · obtain ⟨o, z⟩ := w.hs a m
            exact e.there a o z
          · exact (hnew a m).2.2
      have old : ∀ i c, (wback l ns l')[i]? = some c → ∃ a, p.rho[i]? = some a ∧ CellOk K ⟨p'.H, p.rho ++ t, p'.F⟩ c a := fun i c q => by
        have hi : i < l.length := by rw [← wback_len ns l l']; exact (List.getElem?_eq_some_iff.mp q).1
        by_cases m : i ∈ ns
        · obtain ⟨j, hj⟩ := List.getElem?_of_mem m
          obtain ⟨a, h1, h2⟩ := lt j i hj
          obtain ⟨u, hu⟩ := e.pre
          have hj1 : j < ns.length := (List.getElem?_eq_some_iff.mp hj).1
          have h3 : p'.rho[j]? = some a := by rw [hu]; exact (List.getElem?_append_left (by simpa [addrs] using hj1)).trans h2
          have hj2 : j < l'.length := by rw [c'.1]; exact (List.getElem?_eq_some_iff.mp h3).1
          have q2 := wback_in ns l l' i j _ nd hj hi (List.getElem?_eq_getElem hj2)
          rw [q] at q2
          cases q2
          obtain ⟨b, h4, h5⟩ := c'.2 j _ (List.getElem?_eq_getElem hj2)
          rw [h3] at h4
          cases h4
          exact ⟨a, h1, h5.hf hf rfl fun z => z⟩
        · rw [wback_out ns l l' i m] at q
          obtain ⟨a, h1, h2⟩ := ce.2 i c q
          have na : a ∉ addrs p ns := fun z => by
            obtain ⟨j, m', h3, h4, _⟩ := sub a z
            have := nodup_at w.nd h4 h1
            subst this
            exact m (List.mem_of_getElem? h3)
          obtain ⟨o, ho⟩ := w.hs a (List.mem_of_getElem? h1)
          refine ⟨a, h1, h2.mono E2 ((e.keep a o ho na).trans ho.symm) fun z => ?_⟩
          rcases e.fn a z with z | z | z
          · exact z
          · rw [show p.H a = none from z] at ho; cases ho
          · exact absurd z na
      refine ⟨E2, W2, ?_⟩
      have hlen : l.length = p.rho.length := ce.1
      rcases ht with ⟨rfl, rfl⟩ | ⟨a, c, rfl, h1, h2, rfl⟩
      · refine ⟨by rw [wback_len]; simp [ce.1], fun i c q => ?_⟩
        obtain ⟨a, g1, g2⟩ := old i c q
        exact ⟨a, by show (p.rho ++ [])[i]? = _; rw [List.append_nil]; exact g1, g2⟩
      · refine ⟨by simp [wback_len, ce.1], fun i d q => ?_⟩
        by_cases hi : i < l.length
        · rw [List.getElem?_append_left (by rw [wback_len]; exact hi)] at q
          obtain ⟨b, g1, g2⟩ := old i d q
          exact ⟨b, by show (p.rho ++ [a])[i]? = _; rw [List.getElem?_append_left (by omega)]; exact g1, g2⟩
        · have hi' : i = l.length := by
            have := (List.getElem?_eq_some_iff.mp q).1
            simp only [List.length_append, wback_len, List.length_singleton] at this
            omega
          subst hi'
          rw [List.getElem?_append_right (by rw [wback_len]; exact Nat.le_refl _), wback_len] at q
          simp at q
          subst q
          obtain ⟨b, g1, g2⟩ := c'.2 _ _ h2
          rw [h1] at g1
          cases g1
          exact ⟨a, by show (p.rho ++ [a])[l.length]? = _; rw [hlen, List.getElem?_append_right (Nat.le_refl _)]; simp, g2.hf hf rfl fun z => z⟩
    refine ⟨⟨p.H, addrs p ns, p.F⟩, relab vs 0, cs, _, _, rfl, wc, cc, relab_ok (t := []) r (by simp [hns]) rfl, ?_, hfs, fun d l' v p' e w' c' r' q => ?_, fun ex l' cls dd p' e w' c' x q => ?_⟩
    · rw [← hl]
      have : ∀ (vs : List P) (i : Nat), (relab vs i).length = vs.length := by
        intro vs
        induction vs with
        | nil => intro i; rfl
        | cons v r ih => intro i; cases v <;> simp [relab, ih]
      exact this vs 0
    · unfold callB at q
      split at q
      · rename_i x
        obtain ⟨E2, W2, C2⟩ := back p' l' [] _ e w' c' (.inl ⟨rfl, rfl⟩)
        exact k (.d x) _ v ⟨p'.H, p.rho ++ [], p'.F⟩ E2 W2 C2 (show RP K ⟨p'.H, p.rho ++ [], p'.F⟩ (.d x) v from RD.mono (p := p') (p' := ⟨p'.H, p.rho ++ [], p'.F⟩) ⟨fun _ z => z, fun _ _ z _ => z⟩ r') q
      · rename_i j
        obtain ⟨a, h1, rfl⟩ := r'
        split at q
        · rename_i hj
          obtain ⟨E2, W2, C2⟩ := back p' l' [] _ e w' c' (.inl ⟨rfl, rfl⟩)
          obtain ⟨b, h2, h3⟩ := lt j _ (List.getElem?_eq_getElem hj)
          obtain ⟨u, hu⟩ := e.pre
          have h4 : p'.rho[j]? = some b := by rw [hu]; exact (List.getElem?_append_left (by simpa [addrs] using hj)).trans h3
          rw [h1] at h4
          cases h4
          refine k (.loc (ns.getD j 0)) _ (.ref a) ⟨p'.H, p.rho ++ [], p'.F⟩ E2 W2 C2 (show RP K ⟨p'.H, p.rho ++ [], p'.F⟩ (.loc (ns.getD j 0)) (.ref a) from ⟨a, ?_, rfl⟩) q
          show (p.rho ++ [])[ns.getD j 0]? = _
          rw [List.append_nil, List.getD_eq_getElem?_getD, List.getElem?_eq_getElem hj]
          exact h2
        · rename_i hj
          split at q
          · rename_i hjn
            subst hjn
            split at q
            · rename_i c hc
              obtain ⟨b, g1, g2⟩ := c'.2 _ _ hc
              rw [h1] at g1
              cases g1
              obtain ⟨E2, W2, C2⟩ := back p' l' [a] _ e w' c' (.inr ⟨a, c, rfl, h1, hc, rfl⟩)
              refine k (.loc l.length) _ (.ref a) ⟨p'.H, p.rho ++ [a], p'.F⟩ E2 W2 C2 (show RP K ⟨p'.H, p.rho ++ [a], p'.F⟩ (.loc l.length) (.ref a) from ⟨a, ?_, rfl⟩) q
              show (p.rho ++ [a])[l.length]? = _
              rw [ce.1, List.getElem?_append_right (Nat.le_refl _)]
              simp
            · exact q.elim
          · exact q.elim
      · exact q.elim
    · obtain ⟨E2, W2, C2⟩ := back p' l' [] _ e w' c' (.inl ⟨rfl, rfl⟩)
      exact kx ex _ cls dd ⟨p'.H, p.rho ++ [], p'.F⟩ E2 W2 C2 (XR.mono (p := p') (p' := ⟨p'.H, p.rho ++ [], p'.F⟩) ⟨fun _ z => z, fun _ _ z _ => z⟩ x) q
  · exact h.elim
end
/-- a def as it may be called by its name -/
def CalQ (P : Program) (w : World) (K : PySem.W.Frag) (mg : Str → Option Value) (base : Heap) (k : Nat) (x : Str) (n : Nat) (fs : FS) : Prop :=
  ∃ f fd ps, FnOk P w K mg base (L2.CX P w) k f fd ps (spQ K n fs) ∧ mg x = some (.ref f) ∧ PySem.W.keepIn K (.ref f) = true ∧ Binds K fd ps []
section
variable {X : Cx} {W : WX} {e : Expr} {es : List Expr} {ws : WA} {pos q : Pos} {x : Str} {fs : FS} {k j n : Nat}
def kCall (n : Nat) (fs : FS) (Q : P → LS → Prop) (E : EK) (vs : List P) (l : LS) : Prop := vs.length = n ∧ callP fs vs l Q E
def wCall (n : Nat) (fs : FS) (ws : WA) (σ : SS) (l : LS) (Q : P → LS → Prop) (E : EK) : Prop := ws σ l (kCall n fs Q E) E
theorem qe_call (c : CalQ X.prog X.w X.K X.mg X.base k x n fs) (hr : Room j X.A) (hk : k ≤ j) (tk : Takes X W) (hg : Gl X x) (ha : QA X W (e :: es) ws)
    (hdb : (x == ("__debug__" : Str)) = false := by decide) (he : starEach (e :: es) X.env = (false, eval e X.env) :: starEach es X.env := by rfl) (hpl : (backTo pos (starEach es X.env)).any (·.1) = false := by rfl) :
    QE X W (.Call (.Name x q) (e :: es) [] pos) (wCall n fs ws) := by
  obtain ⟨f, fd, ps, F, hm, hkp, hb⟩ := c
  refine PE.imp (pe_callS (E := fun σ => L2.WE W σ) F (hr.mono hk) hg hm hkp hb (fun σ => passAt tk σ) ha hdb he hpl) fun σ H Q ⟨p, σd, l, Qd, Ed, hH, R, hw, kk, lk⟩ => ?_
  subst hH
  exact cA_ok R hw lk fun vs l1 us p1 e1 R1 r1 q1 => call_ok R1.wf R1.ce r1 q1.1 q1.2 (fun d l' v p' e' w' c' r' q' => kk d l' v p' (e1.trans e') (R1.ext e' w' c') r' q') fun ex l' cls dd p' e' w' c' x q => lk ex l' cls dd p' (e1.trans e') (R1.ext e' w' c') x q
end
end QL
set_option Elab.async false
set_option linter.all false
set_option maxRecDepth 100000
set_option maxHeartbeats 4000000
/-! QL7: short words for the readings of defs. -/
namespace QL
open PySem L2
theorem qi_lst {X : Cx} {W : WX} {tg e : Expr} {we : WE} (h : QE X W e we) : QI X W tg e (iLst we) := qi_list h (pi_list h)
section
variable {g : WG} {tb : WS} {D : ED} {σ : SS} {l : LS}
/-- a loop over things that stay -/
theorem loopX {xs : List QL.D} (Iv : Nat → SS → LS → Prop) (h0 : Iv 0 σ l)
    (ht : ∀ i x σ l, xs[i]? = some x → Iv i σ l → g (.d x) σ l (kTurn tb D (Iv (i + 1)))) (hd : ∀ σ l, Iv xs.length σ l → D.nx σ l) : loopP ⟨xs, okAll⟩ g tb D σ l :=
  ⟨Iv, h0, fun _ _ _ _ => True.intro, ht, hd⟩
theorem loopR {lo : Int} {n : Nat} (Iv : Nat → SS → LS → Prop) (h0 : Iv 0 σ l)
    (ht : ∀ (i : Nat) σ l, i < n → Iv i σ l → g (.d (.int (lo + i))) σ l (kTurn tb D (Iv (i + 1)))) (hd : ∀ σ l, Iv n σ l → D.nx σ l) : loopP ⟨rangeD lo n, okAll⟩ g tb D σ l :=
  loopX Iv h0 (fun i x σ l e h => by
    obtain ⟨h1, rfl⟩ := rangeD_get e
    exact ht i σ l h1 h) (by rw [rangeD_len]; exact hd)
theorem loopC {lo c : Int} {n : Nat} (Iv : Nat → SS → LS → Prop) (h0 : Iv 0 σ l)
    (ht : ∀ (i : Nat) σ l, i < n → Iv i σ l → g (.d (.int (lo + i * c))) σ l (kTurn tb D (Iv (i + 1)))) (hd : ∀ σ l, Iv n σ l → D.nx σ l) : loopP ⟨rangeC lo c n, okAll⟩ g tb D σ l :=
  loopX Iv h0 (fun i x σ l e h => by
    obtain ⟨h1, rfl⟩ := rangeC_get e
    exact ht i σ l h1 h) (by rw [rangeC_len]; exact hd)
/-- a while by an invariant and a measure -/
def kMs (Iv : SS → LS → Prop) (μ : SS → LS → Nat) (m : Nat) (σ : SS) (l : LS) : Prop := ∃ m', m' < m ∧ m' = μ σ l ∧ Iv σ l
theorem whileI {wt : WT} (Iv : SS → LS → Prop) (μ : SS → LS → Nat) (h0 : Iv σ l) (h : ∀ σ l, Iv σ l → wt σ l (kWh tb D (kMs Iv μ (μ σ l)) σ) (exK D σ)) : whileP wt tb D σ l := by
  refine ⟨fun m σ l => m = μ σ l ∧ Iv σ l, ⟨_, rfl, h0⟩, ?_⟩
  rintro m σ l ⟨rfl, hi⟩
  exact h σ l hi
/-- [elt for x in xs], what an item gives may hang on the cells -/
def kIt (Iv : Nat → List QL.D → LS → Prop) (n i : Nat) (acc : List QL.D) (l : LS) : Prop := (acc.length = i ∧ i ≤ n) ∧ Iv i acc l
theorem lcI {xs : List QL.D} {te : WE} {vs : List Nat} {f : Fresh} {Q : P → LS → Prop} (Iv : Nat → List QL.D → LS → Prop) (hz : xs.length < sizeLine) (h0 : Iv 0 [] l)
    (ht : ∀ i x acc l, xs[i]? = some x → acc.length = i → Iv i acc l → g (.d x) (wipeD σ vs) l (kLcT wYes te vs σ (kIt Iv xs.length (i + 1)) acc)) (hd : ∀ acc l, acc.length = xs.length → Iv xs.length acc l → freshL f acc l Q) : lcP ⟨xs, okAll⟩ g wYes te vs f σ l Q :=
  ⟨kIt Iv xs.length, ⟨⟨rfl, Nat.zero_le _⟩, h0⟩, fun i acc l h => ⟨True.intro, by have := h.1; show acc.length < sizeLine; omega⟩, fun i x acc l e h => ht i x acc l e h.1.1 h.2, fun acc l h => hd acc l h.1.1 h.2⟩
end
/-- over a list in a cell -/
theorem lcC {xs : List D} {ok : LS → Prop} {g : WG} {σ : SS} {l : LS} {te : WE} {vs : List Nat} {f : Fresh} {Q : P → LS → Prop} (Iv : Nat → List D → LS → Prop) (hz : xs.length < sizeLine) (h0 : Iv 0 [] l) (hok : ∀ i acc l, Iv i acc l → ok l)
    (ht : ∀ i x acc l, xs[i]? = some x → acc.length = i → Iv i acc l → g (.d x) (wipeD σ vs) l (kLcT wYes te vs σ (kIt Iv xs.length (i + 1)) acc)) (hd : ∀ acc l, acc.length = xs.length → Iv xs.length acc l → freshL f acc l Q) : lcP ⟨xs, ok⟩ g wYes te vs f σ l Q :=
  ⟨kIt Iv xs.length, ⟨⟨rfl, Nat.zero_le _⟩, h0⟩, fun i acc l h => ⟨hok _ _ _ h.2, by have := h.1; show acc.length < sizeLine; omega⟩, fun i x acc l e h => ht i x acc l e h.1.1 h.2, fun acc l h => hd acc l h.1.1 h.2⟩
theorem loopA {I : Items} {g : WG} {tb : WS} {D : ED} {σ : SS} {l : LS} (Iv : Nat → SS → LS → Prop) (h0 : Iv 0 σ l) (hok : ∀ i σ l, Iv i σ l → I.ok l)
    (ht : ∀ i x σ l, I.xs[i]? = some x → Iv i σ l → g (.d x) σ l (kTurn tb D (Iv (i + 1)))) (hd : ∀ σ l, Iv I.xs.length σ l → D.nx σ l) : loopP I g tb D σ l := ⟨Iv, h0, hok, ht, hd⟩
theorem atI_m {α β : Type} {ns : List α} {f : α → β} {k : Int} {j : Nat} {x : α} (hk : k = (j : Int)) (hx : ns[j]? = some x) : atI (ns.map f) k = some (f x) := by
  subst hk
  have hj := (List.getElem?_eq_some_iff.mp hx).1
  unfold atI ixN
  rw [List.length_map, if_pos (by omega), if_pos (by omega)]
  simp [hx]
theorem atI_n {α : Type} {ns : List α} {k : Int} {j : Nat} {x : α} (hk : k = (j : Int)) (hx : ns[j]? = some x) : atI ns k = some x := by
  subst hk
  have hj := (List.getElem?_eq_some_iff.mp hx).1
  unfold atI ixN
  rw [if_pos (by omega), if_pos (by omega)]
  simp [hx]
theorem ixN_n {n j : Nat} {k : Int} (hk : k = (j : Int)) (h : j < n) : ixN n k = some j := by
  subst hk
  unfold ixN
  rw [if_pos (by omega), if_pos (by omega)]
  simp
theorem get_at {α : Type} {xs : List α} {i : Nat} (h : i < xs.length) : xs[i]? = some xs[i] := List.getElem?_eq_getElem h
theorem dOk_int {n : Nat} {i : Int} : dOk n (.int i) ↔ True := by cases n <;> simp [dOk]
theorem dOk_non {n : Nat} : dOk n .non ↔ True := by cases n <;> simp [dOk]
theorem dOk_bl {n : Nat} {b : Bool} : dOk n (.bl b) ↔ True := by cases n <;> simp [dOk]
theorem dOk_ints {n : Nat} {ns : List Int} : dOk (n + 1) (.tup (ns.map .int)) ↔ True := by
  simp only [dOk_tup, List.mem_map, forall_exists_index, and_imp, forall_apply_eq_imp_iff₂, dOk_int, implies_true]
theorem dOk_lints {n : Nat} {ns : List Int} : dOk (n + 1) (.lst (ns.map .int)) ↔ True := by
  simp only [dOk_lst, List.mem_map, forall_exists_index, and_imp, forall_apply_eq_imp_iff₂, dOk_int, implies_true]
theorem dOk_nil {n : Nat} : dOk (n + 1) (.tup []) ↔ True := by simp [dOk_tup]
theorem dOk_cons {n : Nat} {x : D} {xs : List D} : dOk (n + 1) (.tup (x :: xs)) ↔ dOk n x ∧ dOk (n + 1) (.tup xs) := by simp [dOk_tup]
theorem noB_int {i : Int} : noB (.int i) ↔ True := by simp [noB]
theorem noB_non : noB .non ↔ True := by simp [noB]
theorem noB_str {x : Str} : noB (.str x) ↔ True := by simp [noB]
theorem noB_nil : noB (.tup []) ↔ True := by simp [noB]
theorem noB_cons {x : D} {xs : List D} : noB (.tup (x :: xs)) ↔ noB x ∧ noB (.tup xs) := by simp [noB]
theorem noB_ints {ns : List Int} : noB (.tup (ns.map .int)) ↔ True := by
  simp only [noB, List.mem_map, forall_exists_index, and_imp, forall_apply_eq_imp_iff₂, implies_true]
theorem rng_snoc {α : Type} {y : Nat → α} {acc : List α} {i : Nat} (h : acc = (List.range i).map y) : acc ++ [y i] = (List.range (i + 1)).map y := by
  rw [List.range_succ, List.map_append, h]
  rfl
/-! the size of data -/
mutual
def D.sz : D → Nat
  | .tup xs => 1 + D.szs xs
  | .lst xs => 1 + D.szs xs
  | _ => 1
def D.szs : List D → Nat
  | [] => 0
  | x :: xs => x.sz + D.szs xs
end
theorem szs_app : ∀ xs ys : List D, D.szs (xs ++ ys) = D.szs xs + D.szs ys
  | [], ys => by simp [D.szs]
  | x :: xs, ys => by simp only [List.cons_append, D.szs, szs_app xs ys]; omega
theorem sz_pos (x : D) : 1 ≤ x.sz := by cases x <;> simp [D.sz]
theorem len_szs : ∀ xs : List D, xs.length ≤ D.szs xs
  | [] => Nat.le_refl _
  | x :: xs => by
    have := len_szs xs
    have := sz_pos x
    simp only [List.length_cons, D.szs]
    omega
theorem last_split {α : Type} {xs : List α} (h : xs ≠ []) : ∃ (ys : List α) (y : α), xs = ys ++ [y] ∧ xs[xs.length - 1]? = some y ∧ xs.dropLast = ys := by
  refine ⟨xs.dropLast, xs.getLast h, (List.dropLast_concat_getLast h).symm, ?_, rfl⟩
  rw [← List.getLast?_eq_getElem?, List.getLast?_eq_some_getLast h]
theorem atI_cons1 {α : Type} {x y : α} {r : List α} : atI (x :: y :: r) 1 = some y := atI_n (j := 1) rfl rfl
theorem atI_cons2 {α : Type} {x y z : α} {r : List α} : atI (x :: y :: z :: r) 2 = some z := atI_n (j := 2) rfl rfl
theorem cutTake {α : Type} {xs : List α} {k : Nat} : cutD xs none (some (k : Int)) = xs.take k := by
  unfold cutD
  rw [HT.sIx_none, HT.sIx_nat]
  simp only [List.drop_zero, Nat.sub_zero]
  rw [Nat.min_comm, ← List.take_take]
  exact List.take_of_length_le (by simp; omega)
theorem atI_cons0 {α : Type} {x : α} {r : List α} : atI (x :: r) 0 = some x := atI_n (j := 0) rfl rfl
theorem seqIx0 {n : Nat} : seqIndex? 0 (n + 1) = some 0 := by
  unfold seqIndex?
  simp
theorem ixN0 {n : Nat} : ixN (n + 1) 0 = some 0 := ixN_n (j := 0) rfl (by omega)
theorem pos_len (n : Nat) : (0 : Int) < ((n + 1 : Nat) : Int) ↔ True := ⟨fun _ => True.intro, fun _ => by omega⟩
theorem ne_len (n : Nat) : ((n + 1 : Nat) : Int) = 0 ↔ False := ⟨fun h => by omega, False.elim⟩
theorem nodup1 {n : Nat} : [n].Nodup ↔ True := by simp
theorem cut63 {α : Type} {xs : List α} {k : Nat} (h : xs.length ≤ k) : cutD xs none (some (k : Int)) = xs := by
  unfold cutD
  rw [HT.sIx_none, HT.sIx_nat]
  simp [Nat.min_eq_right h]
end QL
set_option Elab.async false
set_option linter.all false
set_option maxRecDepth 100000
set_option maxHeartbeats 4000000
/-! QL8: the law's own head. -/
namespace QL
open PySem L2
theorem rds_ints {K : PySem.W.Frag} {p : Pt} : ∀ ns : List Int, RDs K p (ns.map .int) (ns.map V.int)
  | [] => .nil
  | _ :: r => .cons (.int _) (rds_ints r)
def endD (r : P) (_ : LS) : Prop := r = .d (.bl true)
def endX : EK := fun _ _ => False
theorem end_sp {K : PySem.W.Frag} {H : Hp} {a : Addr} {ns : List Int} {fs : FS} (hO : Only H) (hS : SqL K H a (ns.map V.int)) (hfs : fs [.d (.scr (ns.map .int))] [] endD endX) :
    spQ K 1 fs [.ref a] H (fun v _ => v = .bl true) (fun _ _ _ => False) := by
  have hs : ScrAt K ⟨H, [], fun b => H b ≠ none⟩ a (ns.map V.int) := by
    rcases hS with h | h
    · refine .inl ⟨?_, h⟩
      rcases h with h | ⟨o, h⟩
      · show H a ≠ none
        rw [h]; intro e; cases e
      · show H a ≠ none
        rw [h]; intro e; cases e
    · exact .inr (.inr h)
  have wf : WF ⟨H, [], fun b => H b ≠ none⟩ := ⟨List.nodup_nil, fun a h => absurd h List.not_mem_nil, fun b hb => Option.ne_none_iff_exists'.mp hb⟩
  have ce : Cells K ⟨H, [], fun b => H b ≠ none⟩ [] := ⟨rfl, fun i c h => by simp at h⟩
  have rr : RP K ⟨H, [], fun b => H b ≠ none⟩ (.d (.scr (ns.map .int))) (.ref a) := RD.scr hs (rds_ints ns)
  refine ⟨⟨H, [], fun b => H b ≠ none⟩, _, [], endD, endX, rfl, wf, ce, .cons rr .nil, rfl, hfs, fun d l' v p' _ _ _ r q => ?_, fun ex l' cls dd p' _ _ _ _ q => q.elim⟩
  cases q
  cases r
  rfl
theorem end_cx {P : Program} {w : World} {H : Hp} {s : Shared} {e : Value} {s' : Shared} (h : L2.CX P w [] H s (fun _ _ _ => False) e s') : False := by
  obtain ⟨_, _, _, _, _, _, _, _, _, _, _, _, h⟩ := h
  exact h
theorem calq {P : Program} {w : World} {K : PySem.W.Frag} {mg : Str → Option Value} {base : Heap} {k : Nat} {x : Str} {n : Nat} {fs : FS} {f : Addr} {fd : FuncData} {st : Stmt} {ps : List Str} (F : Fun K x x st f fd) (hm : mg x = some (.ref f)) (ok : FnOk P w K mg base (L2.CX P w) k f fd ps (spQ K n fs))
    (h : ∀ (kV doc pm : Value) (an : Option Addr) (cdv ct : Value) (us : List Value), us.length = ps.length → bindArgs (PySem.W.fnOf x x (defArgs st) (defBody st) (defScope st) .none kV doc pm an cdv ct) ⟨us, []⟩ = pure (ps.zip us)) : CalQ P w K mg base k x n fs :=
  ⟨f, fd, ps, ok, hm, F.kp, F.binds h⟩
end QL
set_option maxHeartbeats 1000000
def rollF (t : Int) : List Int → Int → Int → Nat → Option (Int × Nat)
  | [], v, s, u => if t ≤ s then (if v < t then some (v, u) else none) else none
  | f :: r, v, s, u => if t ≤ s then (if v < t then some (v, u) else rollF t r (2 * (v - t) + f) (2 * (s - t)) (u + 1)) else rollF t r (2 * v + f) (2 * s) (u + 1)
theorem rollF_app {t : Int} : ∀ (fl ext : List Int) (v s : Int) (u : Nat) (r : Int × Nat), rollF t fl v s u = some r → rollF t (fl ++ ext) v s u = some r
  | [], ext, v, s, u, r, h => by
    unfold rollF at h
    split at h
    · rename_i h1
      split at h
      · rename_i h2
        cases ext with
        | nil => simp only [List.append_nil, rollF, if_pos h1, if_pos h2]; exact h
        | cons f e => simp only [List.nil_append, rollF, if_pos h1, if_pos h2]; exact h
      · cases h
    · cases h
  | f :: fl, ext, v, s, u, r, h => by
    simp only [List.cons_append]
    unfold rollF at h ⊢
    split
    · rename_i h1
      rw [if_pos h1] at h
      split
      · rename_i h2
        rw [if_pos h2] at h
        exact h
      · rename_i h2
        rw [if_neg h2] at h
        exact rollF_app fl ext _ _ _ _ h
    · rename_i h1
      rw [if_neg h1] at h
      exact rollF_app fl ext _ _ _ _ h
theorem rollF_cut {t : Int} : ∀ (fl : List Int) (v s : Int) (u : Nat) (x : Int) (k : Nat), rollF t fl v s u = some (x, k) → u ≤ k ∧ rollF t (fl.take (k - u)) v s u = some (x, k) ∧ ∀ j, j < k - u → rollF t (fl.take j) v s u = none
  | [], v, s, u, x, k, h => by
    have h0 := h
    unfold rollF at h
    split at h
    · split at h
      · cases h
        exact ⟨Nat.le_refl _, by simpa using h0, fun j hj => by omega⟩
      · cases h
    · cases h
  | f :: fl, v, s, u, x, k, h => by
    have h0 := h
    unfold rollF at h
    have step : ∀ (v' s' : Int), rollF t fl v' s' (u + 1) = some (x, k) → (∀ e : List Int, rollF t (f :: e) v s u = rollF t e v' s' (u + 1)) → (rollF t [] v s u = none) → u ≤ k ∧ rollF t ((f :: fl).take (k - u)) v s u = some (x, k) ∧ ∀ j, j < k - u → rollF t ((f :: fl).take j) v s u = none := fun v' s' h1 h2 h3 => by
      obtain ⟨i1, i2, i3⟩ := rollF_cut fl v' s' (u + 1) x k h1
      have e : k - u = (k - (u + 1)) + 1 := by omega
      refine ⟨by omega, ?_, fun j hj => ?_⟩
      · rw [e, List.take_succ_cons, h2]
        exact i2
      · cases j with
        | zero => exact h3
        | succ j =>
          rw [List.take_succ_cons, h2]
          exact i3 j (by omega)
    split at h
    · rename_i h1
      split at h
      · rename_i h2
        cases h
        refine ⟨Nat.le_refl _, ?_, fun j hj => by omega⟩
        rw [Nat.sub_self]
        simp only [List.take_zero, rollF, if_pos h1, if_pos h2]
      · rename_i h2
        exact step _ _ h (fun e => by simp only [rollF, if_pos h1, if_neg h2]) (by simp only [rollF, if_pos h1, if_neg h2])
    · rename_i h1
      exact step _ _ h (fun e => by simp only [rollF, if_neg h1]) (by simp only [rollF, if_neg h1])
theorem rollF_in {t : Int} : ∀ (fl : List Int) (v s : Int) (u : Nat) (x : Int) (k : Nat), 0 ≤ v → (∀ f ∈ fl, 0 ≤ f) → rollF t fl v s u = some (x, k) → 0 ≤ x ∧ x < t ∧ k ≤ u + fl.length
  | [], v, s, u, x, k, hv, _, h => by
    unfold rollF at h
    split at h
    · split at h
      · rename_i h2
        cases h
        exact ⟨hv, h2, by simp⟩
      · cases h
    · cases h
  | f :: fl, v, s, u, x, k, hv, hf, h => by
    have f0 := hf f (by simp)
    have f1 : ∀ f ∈ fl, 0 ≤ f := fun g hg => hf g (by simp [hg])
    unfold rollF at h
    split at h
    · rename_i h1
      split at h
      · rename_i h2
        cases h
        exact ⟨hv, h2, by simp⟩
      · rename_i h2
        have := rollF_in fl _ _ _ x k (by omega) f1 h
        simp only [List.length_cons]
        omega
    · have := rollF_in fl _ _ _ x k (by omega) f1 h
      simp only [List.length_cons]
      omega
/-! ### fairness -/
def G (t : Nat) : Nat → Nat → Nat → Option Nat
  | 0, s, m => if t ≤ s then (if m < t then some m else none) else none
  | L + 1, s, m => if t ≤ s then (if m / 2 ^ (L + 1) < t then some (m / 2 ^ (L + 1)) else G t L (2 * (s - t)) (m - t * 2 ^ (L + 1))) else G t L (2 * s) m
def Cn (t L s x : Nat) : Nat := (List.range (s * 2 ^ L)).countP fun m => decide (G t L s m = some x)
theorem count_shift (a b : Nat) (p : Nat → Bool) : (List.range (a + b)).countP p = (List.range a).countP p + (List.range b).countP fun i => p (a + i) := by
  rw [List.range_add, List.countP_append, List.countP_map]
  rfl
theorem count_block (t P x : Nat) (hx : x < t) (hP : 0 < P) : (List.range (t * P)).countP (fun m => decide (m / P = x)) = P := by
  have e : t * P = x * P + (P + (t - x - 1) * P) := by
    have : t = x + (1 + (t - x - 1)) := by omega
    conv => lhs; rw [this]
    rw [Nat.add_mul, Nat.add_mul, Nat.one_mul]
  rw [e, count_shift, count_shift]
  have h1 : (List.range (x * P)).countP (fun m => decide (m / P = x)) = 0 := by
    rw [List.countP_eq_zero]
    intro m hm
    have := List.mem_range.mp hm
    have : m / P < x := (Nat.div_lt_iff_lt_mul hP).mpr this
    simp; omega
  have h2 : (List.range P).countP (fun i => decide ((x * P + i) / P = x)) = P := by
    have : (List.range P).countP (fun i => decide ((x * P + i) / P = x)) = (List.range P).length := by
      rw [List.countP_eq_length]
      intro m hm
      have := List.mem_range.mp hm
      simp only [decide_eq_true_eq]
      rw [Nat.add_comm, Nat.mul_comm, Nat.add_mul_div_left _ _ hP, Nat.div_eq_of_lt this, Nat.zero_add]
    rw [this, List.length_range]
  have h3 : (List.range ((t - x - 1) * P)).countP (fun i => decide ((x * P + (P + i)) / P = x)) = 0 := by
    rw [List.countP_eq_zero]
    intro m _
    have : (x * P + (P + m)) / P = x + 1 + m / P := by
      have : x * P + (P + m) = m + P * (x + 1) := by rw [Nat.mul_succ, Nat.mul_comm P x]; omega
      rw [this, Nat.add_mul_div_left _ _ hP]
      generalize m / P = z
      omega
    rw [this]
    generalize m / P = z
    simp; omega
  rw [h1, h2, h3]
  omega
theorem Cn_zero (t x s : Nat) (hx : x < t) : Cn t 0 s x = if t ≤ s then 1 else 0 := by
  unfold Cn
  simp only [Nat.pow_zero, Nat.mul_one]
  by_cases h : t ≤ s
  · rw [if_pos h]
    have e : s = t + (s - t) := by omega
    have h1 : ∀ m, G t 0 s m = if m < t then some m else none := fun m => by simp only [G, if_pos h]
    rw [show List.range s = List.range (t + (s - t)) by rw [← e], count_shift]
    have a1 : (List.range t).countP (fun m => decide (G t 0 s m = some x)) = 1 := by
      have := count_block t 1 x hx (by omega)
      rw [Nat.mul_one] at this
      conv => rhs; rw [← this]
      apply List.countP_congr
      intro m hm
      have := List.mem_range.mp hm
      simp [h1, this]
    have a2 : (List.range (s - t)).countP (fun i => decide (G t 0 s (t + i) = some x)) = 0 := by
      rw [List.countP_eq_zero]
      intro m _
      have : ¬ t + m < t := by omega
      simp [h1, this]
    rw [a1, a2]
  · rw [if_neg h, List.countP_eq_zero]
    intro m _
    simp [G, h]
theorem Cn_succ (t x L s : Nat) (hx : x < t) : Cn t (L + 1) s x = if t ≤ s then 2 ^ (L + 1) + Cn t L (2 * (s - t)) x else Cn t L (2 * s) x := by
  unfold Cn
  by_cases h : t ≤ s
  · rw [if_pos h]
    have e : s * 2 ^ (L + 1) = t * 2 ^ (L + 1) + (2 * (s - t)) * 2 ^ L := by
      have : s = t + (s - t) := by omega
      conv => lhs; rw [this]
      rw [Nat.add_mul, Nat.pow_succ, Nat.mul_comm 2 (s - t), Nat.mul_assoc (s - t) 2, Nat.mul_comm 2 (2 ^ L)]
    have hP : 0 < 2 ^ (L + 1) := Nat.pow_pos (by omega)
    rw [e, count_shift]
    have b1 : (List.range (t * 2 ^ (L + 1))).countP (fun m => decide (G t (L + 1) s m = some x)) = 2 ^ (L + 1) := by
      refine Eq.trans ?_ (count_block t (2 ^ (L + 1)) x hx hP)
      apply List.countP_congr
      intro m hm
      have := (Nat.div_lt_iff_lt_mul hP).mpr (List.mem_range.mp hm)
      simp [G, h, this]
    rw [b1]
    congr 1
    apply List.countP_congr
    intro m _
    have h2 : ¬ (t * 2 ^ (L + 1) + m) / 2 ^ (L + 1) < t := by
      rw [Nat.add_comm, Nat.mul_comm, Nat.add_mul_div_left _ _ hP]
      generalize m / 2 ^ (L + 1) = z
      omega
    simp only [G, if_pos h, if_neg h2, Nat.add_sub_cancel_left]
  · rw [if_neg h]
    have e : s * 2 ^ (L + 1) = 2 * s * 2 ^ L := by
      rw [Nat.pow_succ, Nat.mul_comm 2 s, Nat.mul_assoc s 2, Nat.mul_comm 2 (2 ^ L)]
    rw [e]
    apply List.countP_congr
    intro m _
    simp only [G, if_neg h]
theorem Cn_fair (t x y : Nat) (hx : x < t) (hy : y < t) : ∀ L s, Cn t L s x = Cn t L s y
  | 0, s => by rw [Cn_zero t x s hx, Cn_zero t y s hy]
  | L + 1, s => by
    rw [Cn_succ t x L s hx, Cn_succ t y L s hy, Cn_fair t x y hx hy L, Cn_fair t x y hx hy L]
theorem mod_two_mul (n p : Nat) : n % (2 * p) = (n / p % 2) * p + n % p := by
  rw [Nat.mul_comm 2 p, Nat.mod_mul, Nat.mul_comm p]
  omega
def bitsN (n : Nat) : Nat → List Int
  | 0 => []
  | L + 1 => ((n / 2 ^ L % 2 : Nat) : Int) :: bitsN n L
theorem roll_G (t n : Nat) : ∀ (L v s u : Nat), (rollF (t : Int) (bitsN n L) v s u).map (·.1) = (G t L s (v * 2 ^ L + n % 2 ^ L)).map Int.ofNat
  | 0, v, s, u => by
    simp only [bitsN, rollF, G, Nat.pow_zero, Nat.mul_one, Nat.mod_one, Nat.add_zero]
    by_cases h1 : t ≤ s
    · rw [if_pos h1, if_pos (show (t : Int) ≤ s by omega)]
      by_cases h2 : v < t
      · rw [if_pos h2, if_pos (show (v : Int) < t by omega)]; rfl
      · rw [if_neg h2, if_neg (show ¬ (v : Int) < t by omega)]; rfl
    · rw [if_neg h1, if_neg (show ¬ (t : Int) ≤ s by omega)]; rfl
  | L + 1, v, s, u => by
    have hP : 0 < 2 ^ (L + 1) := Nat.pow_pos (by omega)
    have hd : (v * 2 ^ (L + 1) + n % 2 ^ (L + 1)) / 2 ^ (L + 1) = v := by
      rw [Nat.add_comm, Nat.mul_comm, Nat.add_mul_div_left _ _ hP, Nat.div_eq_of_lt (Nat.mod_lt _ hP), Nat.zero_add]
    have hm : n % 2 ^ (L + 1) = (n / 2 ^ L % 2) * 2 ^ L + n % 2 ^ L := by
      rw [Nat.pow_succ, Nat.mul_comm (2 ^ L) 2]
      exact mod_two_mul n (2 ^ L)
    simp only [bitsN, rollF, G, hd]
    have nx : ∀ w : Nat, (2 * w + n / 2 ^ L % 2) * 2 ^ L + n % 2 ^ L = w * 2 ^ (L + 1) + n % 2 ^ (L + 1) := fun w => by
      rw [hm, Nat.add_mul, Nat.pow_succ, Nat.mul_comm 2 w, Nat.mul_assoc w 2, Nat.mul_comm 2 (2 ^ L)]
      omega
    by_cases h1 : t ≤ s
    · rw [if_pos h1, if_pos (show (t : Int) ≤ s by omega)]
      by_cases h2 : v < t
      · rw [if_pos h2, if_pos (show (v : Int) < t by omega)]; rfl
      · rw [if_neg h2, if_neg (show ¬ (v : Int) < t by omega)]
        have e1 : (2 * ((v : Int) - (t : Int)) + ((n / 2 ^ L % 2 : Nat) : Int)) = ((2 * (v - t) + n / 2 ^ L % 2 : Nat) : Int) := by omega
        have e2 : (2 * ((s : Int) - (t : Int))) = ((2 * (s - t) : Nat) : Int) := by omega
        rw [e1, e2, roll_G t n L, nx]
        have e3 : v * 2 ^ (L + 1) + n % 2 ^ (L + 1) - t * 2 ^ (L + 1) = (v - t) * 2 ^ (L + 1) + n % 2 ^ (L + 1) := by
          have : v = t + (v - t) := by omega
          conv => lhs; rw [this, Nat.add_mul]
          omega
        rw [e3]
    · rw [if_neg h1, if_neg (show ¬ (t : Int) ≤ s by omega)]
      have e1 : (2 * (v : Int) + ((n / 2 ^ L % 2 : Nat) : Int)) = ((2 * v + n / 2 ^ L % 2 : Nat) : Int) := by omega
      have e2 : (2 * (s : Int)) = ((2 * s : Nat) : Int) := by omega
      rw [e1, e2, roll_G t n L, nx]
/-- how often a value comes among the first i numbers -/
def hits (t L i x : Nat) : Nat := (List.range i).countP fun n => decide ((rollF (t : Int) (bitsN n L) 0 1 0).map (·.1) = some (x : Int))
theorem hits_fair (t L x y : Nat) (hx : x < t) (hy : y < t) : hits t L (2 ^ L) x = hits t L (2 ^ L) y := by
  have e : ∀ z, hits t L (2 ^ L) z = Cn t L 1 z := fun z => by
    unfold hits Cn
    rw [Nat.one_mul]
    apply List.countP_congr
    intro n hn
    have h := roll_G t n L 0 1 0
    simp only [Nat.zero_mul, Nat.zero_add, Nat.mod_eq_of_lt (List.mem_range.mp hn)] at h
    rw [show ((0 : Nat) : Int) = 0 from rfl, show ((1 : Nat) : Int) = 1 from rfl] at h
    rw [h]
    cases G t L 1 n with
    | none => simp
    | some m => simp; omega
  rw [e, e, Cn_fair t x y hx hy]
set_option Elab.async false
set_option linter.all false
set_option maxRecDepth 100000
set_option maxHeartbeats 4000000
namespace W35
open PySem PySem.Spec PyProof.Rows L2 QL
open QL (D P LS SS WE)
local macro_rules | `(tactic| walk_at "q") => `(tactic| simp only [kOp2, kOp1, kUn, kB, kTru, wTru, truD, kNot, kAnd, kOr, kAndV, kOrV, kNotV, kIfE, kCh1, kCh2, kCh3, kC1, kC2, kCB, kDrop, kIf, kG, kAsg, kAug1, kAug2, kPart, kSl1, kSl2, kSl3, kTupD, kLstD, kIce, wIce, kBM0, kBM1, kBM2, kSub1, kSub2, kLst, kTp, kRg1, kRg2, kRg3, kSt, iSt, kTurn, kFor, kWh, kEl, kTs, kLcT, kLc, kCall, kMs, kIt, kEnd, kEx, callE, wSeq, wAsg, gN, wC, wVar, wOp, wUn, wB, isB, wNot, wAnd, wOr, wAndV, wOrV, wNotV, wIfE, wChain, wNil, wCons, wCB, wNext, wBreak, wCont, wDrop, wRet, wRetN, wIf, gE, gC, gT, wAug, oII, oI0, oB0, oU, oIs, isNon,
  bInt1, bInt2, bLen, bTup, bIsi, tyOf, wFor, iRg1, iRg2, iRg3, iLst, iTp, wCall, wTup, wLst, asDs, wBM, wBM0, seqOf, lstOf, lisOf, freshL, snap, oEq, oIx, oIn, oCat, oCatT, wSl, wPart, wNoPart, oSlL, oSlT, mAppend, mPop, mPopAt, mExtend, mRev, gSubL, wLc, wYes, bSum, bAll, bAny, bMax, bMin, bList,
  startD, List.map_cons, List.map_nil, List.length_cons, List.length_nil, List.replicate, List.cons_append, List.nil_append, List.set_cons_zero, List.set_cons_succ, List.getElem?_cons_zero, List.getElem?_cons_succ, Nat.reduceAdd, Nat.reduceSub, Option.map_some, retN, CMul, CDiv, callP, callB, locsOf, relab, pick, wback, List.nodup_nil, List.getD_cons_zero,
  Int.reducePow, Int.reduceNeg, Int.reduceLT, Int.reduceLE, and_self, or_true, true_or, true_and, and_true, decide_eq_true_eq, reduceIte, List.take_length, List.take_zero, List.take_succ_cons, Int.zero_add, List.length_map, Int.reduceToNat, Nat.lt_irrefl, Bool.not_true, Bool.not_false, Bool.true_eq_false, dOk_cons, dOk_nil, atI_cons1, atI_cons0, seqIx0, ixN0, pos_len, ne_len, nodup1, Option.some.injEq, exists_eq_left', Option.isSome_some, List.eraseIdx_cons_zero, Int.ofNat_zero, Int.natCast_zero, Int.lt_irrefl, if_true, eq_self, wipeD, rangeD_len, List.length_append, D.eqv_int, dOk_int, dOk_non, dOk_ints, Bool.false_eq_true, Nat.reduceLeDiff, if_false, decide_true, Bool.not_eq_true', decide_eq_false_iff_not, List.take_nil])

def top (i : Nat) : Stmt := PySem.Challenge.pw_columnwright_k35_rolled.main.body.getD i (.Pass ⟨0, 0, 0, 0⟩)
abbrev s_rolled : Stmt := top 1
abbrev N_rolled : List Str := ["total", "flips", "value", "span", "used"]
theorem sc_rolled : FnScope N_rolled ["total", "flips"] (defScope s_rolled) := ⟨rfl, rfl, rfl, by decide +kernel, rfl, by decide +kernel, by decide +kernel⟩
abbrev s_law_mixed : Stmt := top 3
abbrev N_law_mixed : List Str := ["number", "place", "told", "seed", "turn"]
theorem sc_law_mixed : FnScope N_law_mixed ["number", "place"] (defScope s_law_mixed) := ⟨rfl, rfl, rfl, by decide +kernel, rfl, by decide +kernel, by decide +kernel⟩
abbrev s_law_purse : Stmt := top 4
abbrev N_law_purse : List Str := ["script", "purse", "later", "place", "size"]
theorem sc_law_purse : FnScope N_law_purse ["script"] (defScope s_law_purse) := ⟨rfl, rfl, rfl, by decide +kernel, rfl, by decide +kernel, by decide +kernel⟩
abbrev s_law_take : Stmt := top 5
abbrev N_law_take : List Str := ["purse", "many", "told"]
theorem sc_law_take : FnScope N_law_take ["purse", "many"] (defScope s_law_take) := ⟨rfl, rfl, rfl, by decide +kernel, rfl, by decide +kernel, by decide +kernel⟩
abbrev s_law_row : Stmt := top 6
abbrev N_law_row : List Str := ["purse", "long", "many", "place"]
theorem sc_law_row : FnScope N_law_row ["purse", "long", "many"] (defScope s_law_row) := ⟨rfl, rfl, rfl, by decide +kernel, rfl, by decide +kernel, by decide +kernel⟩
abbrev s_law_truth : Stmt := top 7
abbrev N_law_truth : List Str := ["thing", "waiting", "part"]
theorem sc_law_truth : FnScope N_law_truth ["thing"] (defScope s_law_truth) := ⟨rfl, rfl, rfl, by decide +kernel, rfl, by decide +kernel, by decide +kernel⟩
abbrev s_law_rolled : Stmt := top 8
abbrev N_law_rolled : List Str := ["total", "flips", "value", "span", "used", "turn"]
theorem sc_law_rolled : FnScope N_law_rolled ["total", "flips"] (defScope s_law_rolled) := ⟨rfl, rfl, rfl, by decide +kernel, rfl, by decide +kernel, by decide +kernel⟩
abbrev s_law_flips : Stmt := top 9
abbrev N_law_flips : List Str := ["number", "long", "place"]
theorem sc_law_flips : FnScope N_law_flips ["number", "long"] (defScope s_law_flips) := ⟨rfl, rfl, rfl, by decide +kernel, rfl, by decide +kernel, by decide +kernel⟩
abbrev s_law : Stmt := top 10
abbrev N_law : List Str := ["script", "purse", "turn", "total", "flips", "due", "told", "long", "many", "number", "count"]
theorem sc_law : FnScope N_law ["script"] (defScope s_law) := ⟨rfl, rfl, rfl, by decide +kernel, rfl, by decide +kernel, by decide +kernel⟩
structure Bt (mg : Str → Option Value) : Prop where
  all : mg "all" = none
  bool : mg "bool" = none
  int : mg "int" = none
  isinstance : mg "isinstance" = none
  len : mg "len" = none
  range : mg "range" = none
  tuple : mg "tuple" = none

def rollD : Option (Int × Nat) → D
  | none => .non
  | some (v, u) => .tup [.int v, .int (u : Int)]
def fs_rolled : FS := fun vs l Q _ => ∃ (t : Int) (fl : List Int), vs = [.d (.int t), .d (.tup (fl.map .int))] ∧ l = [] ∧ fl.length ≤ 1000 ∧ Q (.d (rollD (rollF t fl 0 1 0))) []

def fs_law_mixed : FS := fun vs l Q _ => ∃ a b : Int, vs = [.d (.int a), .d (.int b)] ∧ l = [] ∧ ∀ r : Int, 0 ≤ r → Q (.d (.int r)) []

def fs_law_purse : FS := fun vs l Q _ => ∃ ns : List Int, vs = [.d (.scr (ns.map .int))] ∧ l = [] ∧ ns.length ≤ 63 ∧ ∀ ns' : List Int, ns'.length ≤ 1000 → (∀ n ∈ ns', 0 ≤ n) → Q (.loc 0) [.lst (ns'.map .int)]

def Pur (ns : List Int) : Prop := ns.length ≤ 1000 ∧ ∀ n ∈ ns, 0 ≤ n
def fs_law_take : FS := fun vs l Q _ => ∃ (ns : List Int) (m : Int), vs = [.loc 0, .d (.int m)] ∧ l = [.lst (ns.map .int)] ∧ Pur ns ∧ 1 ≤ m ∧ m < 1073741824 ∧
  ∀ (r : Int) (ns' : List Int), 0 ≤ r → r < m → Pur ns' → Q (.d (.int r)) [.lst (ns'.map .int)]

def fs_law_row : FS := fun vs l Q _ => ∃ (ns : List Int) (k : Nat) (m : Int), vs = [.loc 0, .d (.int k), .d (.int m)] ∧ l = [.lst (ns.map .int)] ∧ Pur ns ∧ k ≤ 1000 ∧ 1 ≤ m ∧ m < 1073741824 ∧
  ∀ (rs ns' : List Int), rs.length = k → (∀ r ∈ rs, 0 ≤ r ∧ r < m) → Pur ns' → Q (.d (.tup (rs.map .int))) [.lst (ns'.map .int)]

def fs_law_truth : FS := fun vs l Q _ => ∃ d : D, vs = [.d d] ∧ l = [] ∧ noB d ∧ d.sz ≤ 100000 ∧ Q (.d (.bl false)) []

def fs_law_rolled : FS := fs_rolled

def bitsF (n : Int) (k : Nat) : List Int := (List.range k).map fun i => Builtin.bitAnd (n / 2 ^ (k - 1 - i)) 1
def fs_law_flips : FS := fun vs l Q _ => ∃ (n : Int) (k : Nat), vs = [.d (.int n), .d (.int k)] ∧ l = [] ∧ k ≤ 1000 ∧ Q (.d (.tup ((bitsF n k).map .int))) []
theorem bitsF_N (n : Nat) : ∀ L : Nat, bitsF (n : Int) L = bitsN n L
  | 0 => rfl
  | L + 1 => by
    unfold bitsF bitsN
    rw [List.range_succ_eq_map, List.map_cons, List.map_map, ← bitsF_N n L]
    unfold bitsF
    congr 1
    · rw [PyProof.Rows.bitAnd_m1, show L + 1 - 1 - 0 = L by omega]
      have : (n : Int) / 2 ^ L = ((n / 2 ^ L : Nat) : Int) := by
        rw [Int.natCast_ediv, Int.natCast_pow]
        rfl
      rw [this]
      omega
    · apply List.map_congr_left
      intro i _
      show Builtin.bitAnd ((n : Int) / 2 ^ (L + 1 - 1 - (i + 1))) 1 = _
      rw [show L + 1 - 1 - (i + 1) = L - 1 - i by omega]
theorem rollD_noB (r : Option (Int × Nat)) : noB (rollD r) := by
  cases r with
  | none => simp [rollD, noB]
  | some p => simp [rollD, noB]
theorem rollD_ok (r : Option (Int × Nat)) : dOk 60 (rollD r) := by
  cases r with
  | none => simp [rollD, dOk]
  | some p => simp [rollD, dOk]
theorem rollD_sz (r : Option (Int × Nat)) : (rollD r).sz ≤ 100000 := by
  cases r with
  | none => simp [rollD, D.sz]
  | some p => simp [rollD, D.sz, D.szs]
def fs_law : FS := fun vs l Q _ => ∃ ns : List Int, vs = [.d (.scr (ns.map .int))] ∧ l = [] ∧ ns.length ≤ 63 ∧ Q (.d (.bl true)) []
theorem fs_end (ns : List Int) (h : ns.length ≤ 63) : fs_law [.d (.scr (ns.map .int))] [] endD endX := ⟨ns, rfl, rfl, h, rfl⟩
section
variable {P : Program} {w : World} {K : PySem.W.Frag} {mg : Str → Option Value} {base : Heap}
structure Cs (P : Program) (w : World) (K : PySem.W.Frag) (mg : Str → Option Value) (base : Heap) : Prop where
  u : True
theorem ok_rolled {f : Addr} {fd : FuncData} (F : Fun K "rolled" "rolled" s_rolled f fd) (B : Bt mg) : FnOk P w K mg base (L2.CX P w) 1 f fd ["total", "flips"] (spQ K 2 fs_rolled) := by
  have nd := sc_rolled.nd
  refine fun_q (k := 0) F sc_rolled 2 rfl (fun cdv A outer s H E hr tk => (qss_cons (qs_set (i := 2) nd rfl (by first | exact Or.inl rfl | exact Or.inr rfl) qe_int)
    (qss_cons (qs_set (i := 3) nd rfl (by first | exact Or.inl rfl | exact Or.inr rfl) qe_int)
    (qss_cons (qs_for (passes_of rfl) rfl (qi_range1 (pi_range1 (by rfl) B.range (qa_cons (qe_op op_add ref_I0 (qe_callB call_len_seq ref_len (by rfl) B.len (by decide +kernel) (qa_cons (qe_var 1) qa_nil)) qe_int) qa_nil))) (qg_name (i := 4) nd rfl (by first | exact Or.inl rfl | exact Or.inr rfl)) (qss_cons (qs_if (qt_cmp (op_ge) ref_B0 (qe_var 3) (qe_var 0) (nomark _)) (qss_cons (qs_if (qt_cmp (op_lt) ref_B0 (qe_var 2) (qe_var 0) (nomark _)) (qss_one (qs_ret (qe_tup (qa_cons (qe_var 2) (qa_cons (qe_var 4) qa_nil))))) qss_nil)
    (qss_cons (qs_aug (i := 2) nd rfl (by first | exact Or.inl rfl | exact Or.inr rfl) (qe_var 0) ip_sub ref_ip)
    (qss_one (qs_aug (i := 3) nd rfl (by first | exact Or.inl rfl | exact Or.inr rfl) (qe_var 0) ip_sub ref_ip)))) qss_nil)
    (qss_one (qs_if (qt_cmp (op_lt) ref_B0 (qe_var 4) (qe_callB call_len_seq ref_len (by rfl) B.len (by decide +kernel) (qa_cons (qe_var 1) qa_nil)) (nomark _)) (qss_cons (qs_set (i := 2) nd rfl (by first | exact Or.inl rfl | exact Or.inr rfl) (qe_op op_add ref_I0 (qe_op op_mul ref_II qe_int (qe_var 2)) (qe_ix (qe_var 1) (qe_var 4) (fun _ _ => rfl))))
    (qss_one (qs_set (i := 3) nd rfl (by first | exact Or.inl rfl | exact Or.inr rfl) (qe_op op_mul ref_II qe_int (qe_var 3))))) qss_nil))))
    (qss_one (qs_ret qe_non)))))) (fun ds l Qd Ed hl h => ?_)
  obtain ⟨t, fl, rfl, rfl, hf, q⟩ := h
  walk_at "q"
  refine ⟨by omega, by omega, ?_⟩
  generalize hR : rollF t fl 0 1 0 = R at *
  refine loopR (fun i σ l => ∃ v s x, σ = [some (.d (.int t)), some (.d (.tup (fl.map .int))), some (.d (.int v)), some (.d (.int s)), x] ∧ l = [] ∧ (i ≤ fl.length → rollF t (fl.drop i) v s i = R) ∧ (i = fl.length + 1 → R = none)) ?_ ?_ ?_
  · exact ⟨0, 1, _, rfl, rfl, fun _ => hR, fun h => by omega⟩
  · rintro i σ l hi ⟨v, s, x, rfl, rfl, h1, h2⟩
    walk_at "q"
    have hi' : i ≤ fl.length := by omega
    have h1 := h1 hi'
    by_cases hlt : i < fl.length
    · have e : fl.drop i = fl[i] :: fl.drop (i + 1) := List.drop_eq_getElem_cons hlt
      rw [e] at h1
      unfold rollF at h1
      split
      · rename_i hs
        rw [if_pos hs] at h1
        split
        · rename_i hv
          rw [if_pos hv] at h1
          rw [← h1] at q
          exact q
        · rename_i hv
          rw [if_neg hv] at h1
          rw [if_pos (by omega)]
          exact ⟨_, atI_m rfl (get_at hlt), _, _, _, rfl, fun _ => h1, fun h => by omega⟩
      · rename_i hs
        rw [if_neg hs] at h1
        rw [if_pos (by omega)]
        exact ⟨_, atI_m rfl (get_at hlt), _, _, _, rfl, fun _ => h1, fun h => by omega⟩
    · have e : fl.drop i = [] := List.drop_eq_nil_of_le (by omega)
      rw [e] at h1
      unfold rollF at h1
      split
      · rename_i hs
        rw [if_pos hs] at h1
        split
        · rename_i hv
          rw [if_pos hv] at h1
          rw [← h1] at q
          exact q
        · rename_i hv
          rw [if_neg hv] at h1
          rw [if_neg (by omega)]
          exact ⟨_, _, _, rfl, fun h => by omega, fun _ => h1.symm⟩
      · rename_i hs
        rw [if_neg hs] at h1
        rw [if_neg (by omega)]
        exact ⟨_, _, _, rfl, fun h => by omega, fun _ => h1.symm⟩
  · rintro σ l ⟨v, s, x, rfl, rfl, h1, h2⟩
    walk_at "q"
    rw [h2 (by omega)] at q
    exact q
theorem ok_law_mixed {f : Addr} {fd : FuncData} (F : Fun K "_law_mixed" "_law_mixed" s_law_mixed f fd) (B : Bt mg) : FnOk P w K mg base (L2.CX P w) 1 f fd ["number", "place"] (spQ K 2 fs_law_mixed) := by
  have nd := sc_law_mixed.nd
  refine fun_q (k := 0) F sc_law_mixed 2 rfl (fun cdv A outer s H E hr tk => (qss_cons (qs_set (i := 2) nd rfl (by first | exact Or.inl rfl | exact Or.inr rfl) qe_int)
    (qss_cons (qs_set (i := 3) nd rfl (by first | exact Or.inl rfl | exact Or.inr rfl) (qe_op op_mod ref_II (qe_callTy call_int1 ref_int (by rfl) B.int (by decide +kernel) (qa_cons (qe_op op_add ref_I0 (qe_op op_add ref_I0 (qe_op op_mul ref_II (qe_var 0) qe_int) (qe_op op_mul ref_II (qe_var 1) qe_int)) qe_int) qa_nil)) qe_int))
    (qss_cons (qs_for (passes_of rfl) rfl (qi_range1 (pi_range1 (by rfl) B.range (qa_cons qe_int qa_nil))) (qg_name (i := 4) nd rfl (by first | exact Or.inl rfl | exact Or.inr rfl)) (qss_cons (qs_set (i := 3) nd rfl (by first | exact Or.inl rfl | exact Or.inr rfl) (qe_op op_mod ref_II (qe_callTy call_int1 ref_int (by rfl) B.int (by decide +kernel) (qa_cons (qe_op op_add ref_I0 (qe_op op_add ref_I0 (qe_op op_mul ref_II (qe_var 3) qe_int) (qe_op op_mul ref_II (qe_var 4) qe_int)) qe_int) qa_nil)) qe_int))
    (qss_one (qs_set (i := 2) nd rfl (by first | exact Or.inl rfl | exact Or.inr rfl) (qe_op op_add ref_I0 (qe_op op_mul ref_II (qe_var 2) qe_int) (qe_op op_mod ref_II (qe_callTy call_int1 ref_int (by rfl) B.int (by decide +kernel) (qa_cons (qe_op op_add ref_I0 (qe_op op_mul ref_II (qe_var 3) (qe_var 3)) (qe_op op_mul ref_II (qe_var 4) qe_int)) qa_nil)) qe_int))))))
    (qss_one (qs_ret (qe_var 2))))))) (fun ds l Qd Ed hl h => ?_)
  obtain ⟨a, b, rfl, rfl, q⟩ := h
  walk_at "q"
  refine loopR (fun i σ l => ∃ t s x, σ = [some (.d (.int a)), some (.d (.int b)), some (.d (.int t)), some (.d (.int s)), x] ∧ l = [] ∧ 0 ≤ t ∧ 0 ≤ s ∧ s < 2147483647) ?_ ?_ ?_
  · exact ⟨0, _, _, rfl, rfl, by omega, by omega, by omega⟩
  · rintro i σ l hi ⟨t, s, x, rfl, rfl, h1, h2, h3⟩
    walk_at "q"
    have m1 := Int.emod_nonneg (s * 48271 + (i : Int) * 69621 + 12345) (show (2147483647 : Int) ≠ 0 by decide)
    have m2 := Int.emod_lt_of_pos (s * 48271 + (i : Int) * 69621 + 12345) (show (0 : Int) < 2147483647 by decide)
    generalize (s * 48271 + (i : Int) * 69621 + 12345) % 2147483647 = m at *
    have m3 := Int.emod_nonneg (m * m + (i : Int) * 7) (show (2147483647 : Int) ≠ 0 by decide)
    exact ⟨.inl ⟨by omega, by omega⟩, _, _, _, rfl, by omega, m1, m2⟩
  · rintro σ l ⟨t, s, x, rfl, rfl, h1, h2, h3⟩
    walk_at "q"
    exact q _ h1
structure Cs_law_purse (P : Program) (w : World) (K : PySem.W.Frag) (mg : Str → Option Value) (base : Heap) : Prop where
  law_mixed : CalQ P w K mg base 1 "_law_mixed" 2 fs_law_mixed
theorem ok_law_purse {f : Addr} {fd : FuncData} (F : Fun K "_law_purse" "_law_purse" s_law_purse f fd) (B : Bt mg) (C : Cs_law_purse P w K mg base) : FnOk P w K mg base (L2.CX P w) 2 f fd ["script"] (spQ K 1 fs_law_purse) := by
  have nd := sc_law_purse.nd
  refine fun_q (k := 1) F sc_law_purse 1 rfl (fun cdv A outer s H E hr tk => (qss_cons (qs_set (i := 1) nd rfl (by first | exact Or.inl rfl | exact Or.inr rfl) (qe_lst (f := .cell) qa_nil))
    (qss_cons (qs_set (i := 2) nd rfl (by first | exact Or.inl rfl | exact Or.inr rfl) (qe_lst (f := .cell) qa_nil))
    (qss_cons (qs_for (passes_of rfl) rfl (qi_range1 (pi_range1 (by rfl) B.range (qa_cons (qe_callB call_len_seq ref_len (by rfl) B.len (by decide +kernel) (qa_cons (qe_sl sl_list (ref_slL (f := .frz)) (qe_var 0) qo_none (qo_some qe_int)) qa_nil)) qa_nil))) (qg_name (i := 3) nd rfl (by first | exact Or.inl rfl | exact Or.inr rfl)) (qss_cons (qs_set (i := 4) nd rfl (by first | exact Or.inl rfl | exact Or.inr rfl) (qe_ifE (qt_cmp (op_ge) ref_B0 (qe_ix (qe_var 0) (qe_var 3) (fun _ _ => rfl)) qe_int (nomark _)) (qe_ix (qe_var 0) (qe_var 3) (fun _ _ => rfl)) (qe_un un_neg ref_U (qe_ix (qe_var 0) (qe_var 3) (fun _ _ => rfl)))))
    (qss_one (qs_if (qt_cmp (op_ge) ref_B0 (qe_var 4) qe_int (nomark _)) (qss_cons (qs_expr (qe_bm PySem.F.slot_list_append PySem.F.type_list_append mt_append ref_append (qe_var 1) (qa_cons (qe_op op_fdiv ref_II (qe_var 4) qe_int) qa_nil)))
    (qss_one (qs_expr (qe_bm PySem.F.slot_list_append PySem.F.type_list_append mt_append ref_append (qe_var 2) (qa_cons (qe_call C.law_mixed hr (by decide) tk (by rfl) (qa_cons (qe_op op_mod ref_II (qe_callTy call_int1 ref_int (by rfl) B.int (by decide +kernel) (qa_cons (qe_var 4) qa_nil)) qe_int) (qa_cons (qe_var 3) qa_nil))) qa_nil))))) (qss_one (qs_expr (qe_bm PySem.F.slot_list_append PySem.F.type_list_append mt_append ref_append (qe_var 1) (qa_cons (qe_call C.law_mixed hr (by decide) tk (by rfl) (qa_cons (qe_op op_add ref_I0 (qe_op op_mul ref_II qe_int (qe_op op_mod ref_II (qe_callTy call_int1 ref_int (by rfl) B.int (by decide +kernel) (qa_cons (qe_var 4) qa_nil)) qe_int)) (qe_ifE (qt_cmp (op_lt) ref_B0 (qe_ix (qe_var 0) (qe_var 3) (fun _ _ => rfl)) qe_int (nomark _)) qe_int qe_int)) (qa_cons (qe_var 3) qa_nil))) qa_nil))))))))
    (qss_one (qs_ret (qe_ifE (qt_cmp (op_gt) ref_B0 (qe_callB call_len_seq ref_len (by rfl) B.len (by decide +kernel) (qa_cons (qe_var 1) qa_nil)) qe_int (nomark _)) (qe_op op_cat (ref_cat (f := .cell)) (qe_var 1) (qe_var 2)) (qe_lst (f := .cell) (qa_cons (qe_call C.law_mixed hr (by decide) tk (by rfl) (qa_cons qe_int (qa_cons qe_int qa_nil))) qa_nil))))))))) (fun ds l Qd Ed hl h => ?_)
  obtain ⟨ns, rfl, rfl, hn, q⟩ := h
  walk_at "q"
  rw [show QL.cutD (ns.map D.int) none (some 63) = ns.map D.int from cut63 (k := 63) (by simpa using hn)]
  simp only [List.length_map]
  refine ⟨by omega, by omega, ?_⟩
  refine loopR (fun i σ l => ∃ (xs bs : List Int) (x y : Option QL.P), σ = [some (.d (.scr (ns.map .int))), some (.loc 0), some (.loc 1), x, y] ∧ l = [.lst (xs.map .int), .lst (bs.map .int)] ∧ xs.length = i ∧ bs.length ≤ i ∧ (∀ n ∈ xs, 0 ≤ n) ∧ (∀ n ∈ bs, 0 ≤ n)) ⟨[], [], _, _, rfl, rfl, rfl, by simp, by simp, by simp⟩ ?_ ?_
  · rintro i σ l hi ⟨xs, bs, x, y, rfl, rfl, ha, hb, h1, h2⟩
    walk_at "q"
    have hi2 : i < ns.length := by omega
    simp only [atI_m (f := D.int) (k := (i : Int)) rfl (get_at hi2), Option.some.injEq, exists_eq_left']
    generalize ns[i] = v
    have end1 : ∀ (n : Nat), n < 100 → n < sizeLine := fun n h => Nat.lt_trans h (by decide)
    have big : ∀ u : Int, u ≥ 1000000000000000000 → (∀ n : Int, n ∈ xs ++ [u / 2] → 0 ≤ n) := fun u hu n h => by
      rcases List.mem_append.mp h with h | h
      · exact h1 n h
      · simp at h; omega
    have add : ∀ (zs : List Int) (r : Int), (∀ n ∈ zs, 0 ≤ n) → 0 ≤ r → ∀ n : Int, n ∈ zs ++ [r] → 0 ≤ n := fun zs r hz hr n h => by
      rcases List.mem_append.mp h with h | h
      · exact hz n h
      · simp at h; omega
    split <;> split
    · rename_i h3 h4
      refine ⟨by decide, end1 _ (by omega), _, _, rfl, rfl, fun r hr => ?_⟩
      walk_at "q"
      exact ⟨end1 _ (by omega), xs ++ [v / 2], bs ++ [r], _, _, rfl, by simp, by simp [ha], by simp; omega, big v h4, add bs r h2 hr⟩
    · rename_i h3 h4
      split
      all_goals
        refine ⟨_, _, rfl, rfl, fun r hr => ?_⟩
        walk_at "q"
        exact ⟨end1 _ (by omega), xs ++ [r], bs, _, _, rfl, by simp, by simp [ha], by omega, add xs r h1 hr, h2⟩
    · rename_i h3 h4
      refine ⟨end1 _ (by omega), _, _, rfl, rfl, fun r hr => ?_⟩
      walk_at "q"
      exact ⟨end1 _ (by omega), xs ++ [-v / 2], bs ++ [r], _, _, rfl, by simp, by simp [ha], by simp; omega, big (-v) h4, add bs r h2 hr⟩
    · rename_i h3 h4
      split
      all_goals
        refine ⟨_, _, rfl, rfl, fun r hr => ?_⟩
        walk_at "q"
        exact ⟨end1 _ (by omega), xs ++ [r], bs, _, _, rfl, by simp, by simp [ha], by omega, add xs r h1 hr, h2⟩
  · rintro σ l ⟨xs, bs, x, y, rfl, rfl, ha, hb, h1, h2⟩
    walk_at "q"
    split
    · refine ⟨Nat.le_of_lt (Nat.lt_of_le_of_lt (show xs.length + bs.length ≤ 1000 by omega) (by decide)), ?_⟩
      have := q (xs ++ bs) (by simp; omega) (fun n h => by
        rcases List.mem_append.mp h with h | h
        · exact h1 n h
        · exact h2 n h)
      simpa using this
    · refine ⟨_, _, rfl, rfl, fun r hr => ?_⟩
      walk_at "q"
      have := q [r] (by simp) (by simpa using hr)
      simpa using this
theorem ok_law_take {f : Addr} {fd : FuncData} (F : Fun K "_law_take" "_law_take" s_law_take f fd) (B : Bt mg) : FnOk P w K mg base (L2.CX P w) 1 f fd ["purse", "many"] (spQ K 2 fs_law_take) := by
  have nd := sc_law_take.nd
  refine fun_q (k := 0) F sc_law_take 2 rfl (fun cdv A outer s H E hr tk => (qss_cons (qs_while (passes_of rfl) (QW.qt (qw_and (qt_cmp (op_gt) ref_B0 (qe_callB call_len_seq ref_len (by rfl) B.len (by decide +kernel) (qa_cons (qe_var 0) qa_nil)) qe_int (nomark _)) (qw_and1 (qt_cmp (op_eqD hr.units) ref_eq (qe_ix (qe_var 0) qe_int (fun _ _ => rfl)) qe_int (nomark _))))) (qss_one (qs_expr (qe_bm PySem.F.slot_list_pop PySem.F.type_list_pop mt_popAt ref_popAt (qe_var 0) (qa_cons qe_int qa_nil)))))
    (qss_cons (qs_if (qt_cmp (op_eqD hr.units) ref_eq (qe_callB call_len_seq ref_len (by rfl) B.len (by decide +kernel) (qa_cons (qe_var 0) qa_nil)) qe_int (nomark _)) (qss_one (qs_ret qe_int)) qss_nil)
    (qss_cons (qs_set (i := 2) nd rfl (by first | exact Or.inl rfl | exact Or.inr rfl) (qe_op op_mod ref_II (qe_callTy call_int1 ref_int (by rfl) B.int (by decide +kernel) (qa_cons (qe_ix (qe_var 0) qe_int (fun _ _ => rfl)) qa_nil)) (qe_var 1)))
    (qss_cons (qs_asg (qe_op op_fdiv ref_II (qe_ix (qe_var 0) qe_int (fun _ _ => rfl)) (qe_var 1)) (qg_subL (W := W0) (qe_var 0) qe_int))
    (qss_one (qs_ret (qe_var 2)))))))) (fun ds l Qd Ed hl h => ?_)
  obtain ⟨ns, m, rfl, rfl, hp, h1, h2, q⟩ := h
  walk_at "q"
  refine whileI (fun σ l => ∃ ns', σ = [some (.loc 0), some (.d (.int m)), none] ∧ l = [.lst (ns'.map .int)] ∧ Pur ns') (fun _ l => match l with | [.lst ws] => ws.length | _ => 0) ⟨_, rfl, rfl, hp⟩ ?_
  rintro σ l ⟨ns', rfl, rfl, hp'⟩
  cases ns' with
  | nil =>
    walk_at "q"
    exact q 0 [] (by omega) (by omega) hp'
  | cons x r =>
    walk_at "q"
    have hx : 0 ≤ x := hp'.2 x (by simp)
    have hr : Pur r := ⟨by have := hp'.1; simp at this; omega, fun n h => hp'.2 n (by simp [h])⟩
    have m1 := Int.emod_nonneg x (show m ≠ 0 by omega)
    have m2 := Int.emod_lt_of_pos x (show 0 < m by omega)
    split
    · exact ⟨0, D.int x, rfl, rfl, r.length, by omega, by simp, r, rfl, hr⟩
    · refine ⟨by omega, ⟨by omega, by omega⟩, q (x % m) (x / m :: r) m1 m2 ⟨by have := hp'.1; simpa using this, fun n h => ?_⟩⟩
      rcases List.mem_cons.mp h with h | h
      · rw [h]
        exact Int.ediv_nonneg hx (by omega)
      · exact hr.2 n h
structure Cs_law_row (P : Program) (w : World) (K : PySem.W.Frag) (mg : Str → Option Value) (base : Heap) : Prop where
  law_take : CalQ P w K mg base 1 "_law_take" 2 fs_law_take
theorem ok_law_row {f : Addr} {fd : FuncData} (F : Fun K "_law_row" "_law_row" s_law_row f fd) (B : Bt mg) (C : Cs_law_row P w K mg base) : FnOk P w K mg base (L2.CX P w) 2 f fd ["purse", "long", "many"] (spQ K 3 fs_law_row) := by
  have nd := sc_law_row.nd
  refine fun_q (k := 1) F sc_law_row 3 rfl (fun cdv A outer s H E hr tk => (qss_one (qs_ret (qe_callTy call_tuple_of ref_tuple (by rfl) B.tuple (by decide +kernel) (qa_cons (qe_lc (f := .frz) (own := [("place", 3)]) rfl nd (qi_range1 (pi_range1 (by rfl) B.range (qa_cons (qe_var 1) qa_nil))) (blkOk_by (N := N_law_row) (sc := defScope s_law_row) (by decide +kernel)) (fun _ _ _ _ _ => (qgv_name (i := 3) (by decide) nd rfl (by first | exact Or.inl rfl | exact Or.inr rfl))) (fun _ _ _ _ _ => qts_nil) (fun _ _ _ _ _ => (qe_call C.law_take hr (by decide) takes0 (by rfl) (qa_cons (qe_var 0) (qa_cons (qe_var 2) qa_nil))))) qa_nil))))) (fun ds l Qd Ed hl h => ?_)
  obtain ⟨ns, k, m, rfl, rfl, hp, hk, h1, h2, q⟩ := h
  walk_at "q"
  refine ⟨by omega, by omega, ?_⟩
  refine lcI (fun i acc l => ∃ rs ns' : List Int, acc = rs.map .int ∧ l = [.lst (ns'.map .int)] ∧ (∀ r ∈ rs, 0 ≤ r ∧ r < m) ∧ Pur ns') (by rw [rangeD_len]; exact small1000 (by omega)) ⟨[], ns, rfl, rfl, by simp, hp⟩ ?_ ?_
  · rintro i x acc l hx ha ⟨rs, ns', rfl, rfl, hr, hp'⟩
    obtain ⟨hi, rfl⟩ := rangeD_get hx
    walk_at "q"
    refine ⟨ns', m, rfl, rfl, hp', h1, h2, fun r ns'' r0 r1 hp'' => ?_⟩
    simp only [List.length_map] at ha
    exact ⟨⟨by simp [ha], by omega⟩, rs ++ [r], ns'', by simp, rfl, by
      intro x hx
      rcases List.mem_append.mp hx with h | h
      · exact hr x h
      · simp at h; omega, hp''⟩
  · rintro acc l ha ⟨rs, ns', rfl, rfl, hr, hp'⟩
    walk_at "q"
    exact q rs ns' (by simpa [rangeD_len] using ha) hr hp'
theorem ok_law_truth {f : Addr} {fd : FuncData} (F : Fun K "_law_truth" "_law_truth" s_law_truth f fd) (B : Bt mg) : FnOk P w K mg base (L2.CX P w) 1 f fd ["thing"] (spQ K 1 fs_law_truth) := by
  have nd := sc_law_truth.nd
  refine fun_q (k := 0) F sc_law_truth 1 rfl (fun cdv A outer s H E hr tk => (qss_cons (qs_set (i := 1) nd rfl (by first | exact Or.inl rfl | exact Or.inr rfl) (qe_lst (f := .cell) (qa_cons (qe_var 0) qa_nil)))
    (qss_cons (qs_while (passes_of rfl) (qt_cmp (op_gt) ref_B0 (qe_callB call_len_seq ref_len (by rfl) B.len (by decide +kernel) (qa_cons (qe_var 1) qa_nil)) qe_int (nomark _)) (qss_cons (qs_set (i := 2) nd rfl (by first | exact Or.inl rfl | exact Or.inr rfl) (qe_bm0 PySem.F.slot_list_pop PySem.F.type_list_pop mt_pop ref_pop (qe_var 1)))
    (qss_cons (qs_if (qt_val (qe_callB call_isi ref_isi (by rfl) B.isinstance (by decide +kernel) (qa_cons (qe_var 2) (qa_cons (qe_type (n := "bool") (by rfl) B.bool (by decide +kernel)) qa_nil)))) (qss_one (qs_ret qe_bl)) qss_nil)
    (qss_one (qs_if (qt_val (qe_callB call_isi ref_isi (by rfl) B.isinstance (by decide +kernel) (qa_cons (qe_var 2) (qa_cons (qe_type (n := "tuple") (by rfl) B.tuple (by decide +kernel)) qa_nil)))) (qss_one (qs_expr (qe_bm PySem.F.slot_list_extend PySem.F.type_list_extend mt_ext ref_extend (qe_var 1) (qa_cons (qe_var 2) qa_nil)))) qss_nil)))))
    (qss_one (qs_ret qe_bl))))) (fun ds l Qd Ed hl h => ?_)
  obtain ⟨d, rfl, rfl, hd, hs, q⟩ := h
  walk_at "q"
  refine whileI (fun σ l => ∃ x ws, σ = [some (.d d), some (.loc 0), x] ∧ l = [.lst ws] ∧ (∀ w ∈ ws, noB w) ∧ D.szs ws ≤ 100000) (fun _ l => match l with | [.lst ws] => D.szs ws | _ => 0) ⟨_, _, rfl, rfl, by simpa using hd, by simp [D.szs]; omega⟩ ?_
  rintro σ l ⟨x, ws, rfl, rfl, hw, hz⟩
  walk_at "q"
  split
  · rename_i h0
    obtain ⟨ys, y, rfl, e1, e2⟩ := last_split (xs := ws) (by rintro rfl; simp at h0)
    have hy : noB y := hw y (by simp)
    have hys : ∀ w ∈ ys, noB w := fun w h => hw w (by simp [h])
    have hsz : D.szs (ys ++ [y]) = D.szs ys + y.sz := by rw [szs_app]; simp [D.szs]
    have hp := sz_pos y
    have hl2 := len_szs ys
    rw [hsz] at hz
    refine ⟨y, e1, ?_⟩
    rw [e2]
    cases y with
    | bl _ => simp [noB] at hy
    | scr _ => simp [noB] at hy
    | ty _ => simp [noB] at hy
    | obj _ _ _ => simp [noB] at hy
    | non => exact ⟨_, by show D.szs ys < _; omega, rfl, _, _, rfl, rfl, hys, by omega⟩
    | int _ => exact ⟨_, by show D.szs ys < _; omega, rfl, _, _, rfl, rfl, hys, by omega⟩
    | str _ => exact ⟨_, by show D.szs ys < _; omega, rfl, _, _, rfl, rfl, hys, by omega⟩
    | lst _ => exact ⟨_, by show D.szs ys < _; omega, rfl, _, _, rfl, rfl, hys, by omega⟩
    | tup zs =>
      have h3 := len_szs zs
      simp only [D.sz] at hsz hz hp
      have h4 : ys.length + zs.length ≤ sizeLine := Nat.le_of_lt (Nat.lt_of_le_of_lt (show ys.length + zs.length ≤ 100000 by omega) (by decide))
      exact ⟨h4, _, by show D.szs (ys ++ zs) < _; rw [szs_app]; omega, rfl, _, _, rfl, rfl, fun w h => by
        rcases List.mem_append.mp h with h | h
        · exact hys w h
        · exact (by simpa [noB] using hy : ∀ x ∈ zs, noB x) w h, by rw [szs_app]; omega⟩
  · exact q
theorem ok_law_rolled {f : Addr} {fd : FuncData} (F : Fun K "_law_rolled" "_law_rolled" s_law_rolled f fd) (B : Bt mg) : FnOk P w K mg base (L2.CX P w) 1 f fd ["total", "flips"] (spQ K 2 fs_law_rolled) := by
  have nd := sc_law_rolled.nd
  refine fun_q (k := 0) F sc_law_rolled 2 rfl (fun cdv A outer s H E hr tk => (qss_cons (qs_set (i := 2) nd rfl (by first | exact Or.inl rfl | exact Or.inr rfl) qe_int)
    (qss_cons (qs_set (i := 3) nd rfl (by first | exact Or.inl rfl | exact Or.inr rfl) qe_int)
    (qss_cons (qs_set (i := 4) nd rfl (by first | exact Or.inl rfl | exact Or.inr rfl) qe_int)
    (qss_cons (qs_for (passes_of rfl) rfl (qi_range1 (pi_range1 (by rfl) B.range (qa_cons (qe_op op_add ref_I0 (qe_callB call_len_seq ref_len (by rfl) B.len (by decide +kernel) (qa_cons (qe_var 1) qa_nil)) qe_int) qa_nil))) (qg_name (i := 5) nd rfl (by first | exact Or.inl rfl | exact Or.inr rfl)) (qss_cons (qs_if (QW.qt (qw_and (qt_cmp (op_ge) ref_B0 (qe_var 3) (qe_var 0) (nomark _)) (qw_and1 (qt_cmp (op_lt) ref_B0 (qe_var 2) (qe_var 0) (nomark _))))) (qss_one (qs_ret (qe_tup (qa_cons (qe_var 2) (qa_cons (qe_var 4) qa_nil))))) qss_nil)
    (qss_cons (qs_if (qt_cmp (op_ge) ref_B0 (qe_var 3) (qe_var 0) (nomark _)) (qss_cons (qs_set (i := 2) nd rfl (by first | exact Or.inl rfl | exact Or.inr rfl) (qe_op op_sub ref_I0 (qe_var 2) (qe_var 0)))
    (qss_one (qs_set (i := 3) nd rfl (by first | exact Or.inl rfl | exact Or.inr rfl) (qe_op op_sub ref_I0 (qe_var 3) (qe_var 0))))) qss_nil)
    (qss_cons (qs_if (qt_cmp (op_eqD hr.units) ref_eq (qe_var 4) (qe_callB call_len_seq ref_len (by rfl) B.len (by decide +kernel) (qa_cons (qe_var 1) qa_nil)) (nomark _)) (qss_one (qs_ret qe_non)) qss_nil)
    (qss_cons (qs_set (i := 2) nd rfl (by first | exact Or.inl rfl | exact Or.inr rfl) (qe_op op_add ref_I0 (qe_op op_mul ref_II qe_int (qe_var 2)) (qe_ix (qe_var 1) (qe_var 4) (fun _ _ => rfl))))
    (qss_cons (qs_set (i := 3) nd rfl (by first | exact Or.inl rfl | exact Or.inr rfl) (qe_op op_mul ref_II qe_int (qe_var 3)))
    (qss_one (qs_set (i := 4) nd rfl (by first | exact Or.inl rfl | exact Or.inr rfl) (qe_op op_add ref_I0 (qe_var 4) qe_int)))))))))
    (qss_one (qs_ret qe_non))))))) (fun ds l Qd Ed hl h => ?_)
  obtain ⟨t, fl, rfl, rfl, hf, q⟩ := h
  walk_at "q"
  refine ⟨by omega, by omega, ?_⟩
  generalize hR : rollF t fl 0 1 0 = R at *
  refine loopR (fun i σ l => ∃ v s x, σ = [some (.d (.int t)), some (.d (.tup (fl.map .int))), some (.d (.int v)), some (.d (.int s)), some (.d (.int i)), x] ∧ l = [] ∧ i ≤ fl.length ∧ rollF t (fl.drop i) v s i = R) ?_ ?_ ?_
  · exact ⟨0, 1, _, rfl, rfl, Nat.zero_le _, hR⟩
  · rintro i σ l hi ⟨v, s, x, rfl, rfl, hi', h1⟩
    walk_at "q"
    by_cases hlt : i < fl.length
    · have e : fl.drop i = fl[i] :: fl.drop (i + 1) := List.drop_eq_getElem_cons hlt
      rw [e] at h1
      unfold rollF at h1
      have ne : ¬ ((i : Int) = (fl.length : Int)) := by omega
      split
      · rename_i hs
        rw [if_pos hs] at h1
        split
        · rename_i hv
          rw [if_pos hv] at h1
          rw [← h1] at q
          exact q
        · rename_i hv
          rw [if_neg hv] at h1
          exact ⟨_, atI_m rfl (get_at hlt), _, _, _, rfl, hlt, h1⟩
      · rename_i hs
        rw [if_neg hs] at h1
        exact ⟨_, atI_m rfl (get_at hlt), _, _, _, rfl, hlt, h1⟩
    · have e : fl.drop i = [] := List.drop_eq_nil_of_le (by omega)
      rw [e] at h1
      unfold rollF at h1
      have ne : ((i : Int) = (fl.length : Int)) := by omega
      split
      · rename_i hs
        rw [if_pos hs] at h1
        split
        · rename_i hv
          rw [if_pos hv] at h1
          rw [← h1] at q
          exact q
        · rename_i hv
          rw [if_neg hv] at h1
          rw [← h1] at q
          exact q
      · rename_i hs
        rw [if_neg hs] at h1
        rw [← h1] at q
        exact q
  · rintro σ l ⟨v, s, x, rfl, rfl, h0, h1⟩
    omega
theorem ok_law_flips {f : Addr} {fd : FuncData} (F : Fun K "_law_flips" "_law_flips" s_law_flips f fd) (B : Bt mg) : FnOk P w K mg base (L2.CX P w) 1 f fd ["number", "long"] (spQ K 2 fs_law_flips) := by
  have nd := sc_law_flips.nd
  refine fun_q (k := 0) F sc_law_flips 2 rfl (fun cdv A outer s H E hr tk => (qss_one (qs_ret (qe_callTy call_tuple_of ref_tuple (by rfl) B.tuple (by decide +kernel) (qa_cons (qe_lc (f := .frz) (own := [("place", 2)]) rfl nd (qi_range1 (pi_range1 (by rfl) B.range (qa_cons (qe_var 1) qa_nil))) (blkOk_by (N := N_law_flips) (sc := defScope s_law_flips) (by decide +kernel)) (fun _ _ _ _ _ => (qgv_name (i := 2) (by decide) nd rfl (by first | exact Or.inl rfl | exact Or.inr rfl))) (fun _ _ _ _ _ => qts_nil) (fun _ _ _ _ _ => (qe_op op_and ref_I0 (qe_op op_shr ref_II (qe_var 0) (qe_op op_sub ref_I0 (qe_op op_sub ref_I0 (qe_var 1) qe_int) (qe_var 2))) qe_int))) qa_nil))))) (fun ds l Qd Ed hl h => ?_)
  obtain ⟨n, k, rfl, rfl, hk, q⟩ := h
  walk_at "q"
  refine ⟨by omega, by omega, ?_⟩
  refine lcI (fun i acc l => acc = (List.range i).map (fun i => D.int (Builtin.bitAnd (n / 2 ^ (k - 1 - i)) 1)) ∧ l = []) (by rw [rangeD_len]; show k < sizeLine; exact small1000 hk) ⟨rfl, rfl⟩ ?_ ?_
  · rintro i x acc l hx ha ⟨hacc, rfl⟩
    obtain ⟨hi, rfl⟩ := rangeD_get hx
    have hi : i < k := by omega
    walk_at "q"
    have e : ((k : Int) - 1 - (i : Int)).toNat = k - 1 - i := by omega
    rw [e]
    exact ⟨by omega, ⟨by omega, by omega⟩, rng_snoc (y := fun i => D.int (Builtin.bitAnd (n / 2 ^ (k - 1 - i)) 1)) hacc⟩
  · rintro acc l ha ⟨hacc, rfl⟩
    walk_at "q"
    rw [rangeD_len] at hacc
    rw [hacc]
    have e : (List.range (Int.toNat (k : Int))).map (fun i => D.int (Builtin.bitAnd (n / 2 ^ (k - 1 - i)) 1)) = (bitsF n k).map .int := by
      unfold bitsF
      rw [List.map_map]
      rfl
    rw [e]
    exact q
structure Cs_law (P : Program) (w : World) (K : PySem.W.Frag) (mg : Str → Option Value) (base : Heap) : Prop where
  rolled : CalQ P w K mg base 1 "rolled" 2 fs_rolled
  law_purse : CalQ P w K mg base 2 "_law_purse" 1 fs_law_purse
  law_take : CalQ P w K mg base 1 "_law_take" 2 fs_law_take
  law_row : CalQ P w K mg base 2 "_law_row" 3 fs_law_row
  law_truth : CalQ P w K mg base 1 "_law_truth" 1 fs_law_truth
  law_rolled : CalQ P w K mg base 1 "_law_rolled" 2 fs_law_rolled
  law_flips : CalQ P w K mg base 1 "_law_flips" 2 fs_law_flips
theorem ok_law {f : Addr} {fd : FuncData} (F : Fun K "law" "law" s_law f fd) (B : Bt mg) (C : Cs_law P w K mg base) : FnOk P w K mg base (L2.CX P w) 3 f fd ["script"] (spQ K 1 fs_law) := by
  have nd := sc_law.nd
  refine fun_q (k := 2) F sc_law 1 rfl (fun cdv A outer s H E hr tk => (qss_cons (qs_set (i := 1) nd rfl (by first | exact Or.inl rfl | exact Or.inr rfl) (qe_call C.law_purse hr (by decide) tk (by rfl) (qa_cons (qe_var 0) qa_nil)))
    (qss_cons (qs_for (passes_of rfl) rfl (qi_range1 (pi_range1 (by rfl) B.range (qa_cons qe_int qa_nil))) (qg_name (i := 2) nd rfl (by first | exact Or.inl rfl | exact Or.inr rfl)) (qss_cons (qs_set (i := 3) nd rfl (by first | exact Or.inl rfl | exact Or.inr rfl) (qe_op op_add ref_I0 qe_int (qe_call C.law_take hr (by decide) tk (by rfl) (qa_cons (qe_var 1) (qa_cons (qe_ifE (qt_cmp (op_eqD hr.units) ref_eq (qe_call C.law_take hr (by decide) tk (by rfl) (qa_cons (qe_var 1) (qa_cons qe_int qa_nil))) qe_int (nomark _)) qe_int qe_int) qa_nil)))))
    (qss_cons (qs_set (i := 4) nd rfl (by first | exact Or.inl rfl | exact Or.inr rfl) (qe_call C.law_row hr (by decide) tk (by rfl) (qa_cons (qe_var 1) (qa_cons (qe_call C.law_take hr (by decide) tk (by rfl) (qa_cons (qe_var 1) (qa_cons qe_int qa_nil))) (qa_cons qe_int qa_nil)))))
    (qss_cons (qs_set (i := 5) nd rfl (by first | exact Or.inl rfl | exact Or.inr rfl) (qe_call C.law_rolled hr (by decide) tk (by rfl) (qa_cons (qe_var 3) (qa_cons (qe_var 4) qa_nil))))
    (qss_cons (qs_set (i := 6) nd rfl (by first | exact Or.inl rfl | exact Or.inr rfl) (qe_call C.rolled hr (by decide) tk (by rfl) (qa_cons (qe_var 3) (qa_cons (qe_var 4) qa_nil))))
    (qss_cons (qs_if (QW.qt (qw_or (qt_cmp (op_neD hr.units) ref_ne (qe_var 6) (qe_var 5) (nomark _)) (qw_or1 (qt_val (qe_call C.law_truth hr (by decide) tk (by rfl) (qa_cons (qe_var 6) qa_nil)))))) (qss_one (qs_ret qe_bl)) qss_nil)
    (qss_cons (qs_if (QW.qt (qw_and (qt_cmp (op_notN) ref_notN (qe_var 5) qe_non (nomark _)) (qw_and1 (qt_cmp (op_neD hr.units) ref_ne (qe_call C.rolled hr (by decide) tk (by rfl) (qa_cons (qe_var 3) (qa_cons (qe_op op_catA ref_catT (qe_var 4) (qe_call C.law_row hr (by decide) tk (by rfl) (qa_cons (qe_var 1) (qa_cons qe_int (qa_cons qe_int qa_nil))))) qa_nil))) (qe_var 5) (nomark _))))) (qss_one (qs_ret qe_bl)) qss_nil)
    (qss_cons (qs_if (QW.qt (qw_and (qt_cmp (op_notN) ref_notN (qe_var 5) qe_non (nomark _)) (qw_and1 (qt_cmp (op_neD hr.units) ref_ne (qe_call C.rolled hr (by decide) tk (by rfl) (qa_cons (qe_var 3) (qa_cons (qe_sl sl_tupA ref_slT (qe_var 4) qo_none (qo_some (qe_ix (qe_var 5) qe_int (fun _ _ => rfl)))) qa_nil))) (qe_var 5) (nomark _))))) (qss_one (qs_ret qe_bl)) qss_nil)
    (qss_one (qs_if (QW.qt (qw_and (qt_cmp (op_notN) ref_notN (qe_var 5) qe_non (nomark _)) (qw_and (qt_cmp (op_gt) ref_B0 (qe_ix (qe_var 5) qe_int (fun _ _ => rfl)) qe_int (nomark _)) (qw_and1 (qt_cmp (op_notN) ref_notN (qe_call C.rolled hr (by decide) tk (by rfl) (qa_cons (qe_var 3) (qa_cons (qe_sl sl_tupA ref_slT (qe_var 4) qo_none (qo_some (qe_op op_sub ref_I0 (qe_ix (qe_var 5) qe_int (fun _ _ => rfl)) qe_int))) qa_nil))) qe_non (nomark _)))))) (qss_one (qs_ret qe_bl)) qss_nil))))))))))
    (qss_cons (qs_set (i := 3) nd rfl (by first | exact Or.inl rfl | exact Or.inr rfl) (qe_op op_add ref_I0 qe_int (qe_call C.law_take hr (by decide) tk (by rfl) (qa_cons (qe_var 1) (qa_cons qe_int qa_nil)))))
    (qss_cons (qs_set (i := 7) nd rfl (by first | exact Or.inl rfl | exact Or.inr rfl) (qe_call C.law_take hr (by decide) tk (by rfl) (qa_cons (qe_var 1) (qa_cons qe_int qa_nil))))
    (qss_cons (qs_set (i := 8) nd rfl (by first | exact Or.inl rfl | exact Or.inr rfl) (qe_lc (f := .cell) (own := [("number", 9)]) rfl nd (qi_range1 (pi_range1 (by rfl) B.range (qa_cons (qe_var 3) qa_nil))) (blkOk_by (N := N_law) (sc := defScope s_law) (by decide +kernel)) (fun _ _ _ _ _ => (qgv_name (i := 9) (by decide) nd rfl (by first | exact Or.inl rfl | exact Or.inr rfl))) (fun _ _ _ _ _ => qts_nil) (fun _ _ _ _ _ => qe_int)))
    (qss_cons (qs_for (passes_of rfl) rfl (qi_range1 (pi_range1 (by rfl) B.range (qa_cons (qe_op op_shl ref_II qe_int (qe_var 7)) qa_nil))) (qg_name (i := 9) nd rfl (by first | exact Or.inl rfl | exact Or.inr rfl)) (qss_cons (qs_set (i := 6) nd rfl (by first | exact Or.inl rfl | exact Or.inr rfl) (qe_call C.rolled hr (by decide) tk (by rfl) (qa_cons (qe_var 3) (qa_cons (qe_call C.law_flips hr (by decide) tk (by rfl) (qa_cons (qe_var 9) (qa_cons (qe_var 7) qa_nil))) qa_nil))))
    (qss_one (qs_if (qt_cmp (op_notN) ref_notN (qe_var 6) qe_non (nomark _)) (qss_cons (qs_if (QW.qt (qw_or (qt_not (qt_chain (op_le) ref_B0 (op_lt) ref_B0 qe_int (qe_ix (qe_var 6) qe_int (fun _ _ => rfl)) (qe_var 3))) (qw_or1 (qt_not (qt_chain (op_le) ref_B0 (op_le) ref_B0 qe_int (qe_ix (qe_var 6) qe_int (fun _ _ => rfl)) (qe_var 7)))))) (qss_one (qs_ret qe_bl)) qss_nil)
    (qss_one (qs_asg (qe_op op_add ref_I0 (qe_ix (qe_var 8) (qe_ix (qe_var 6) qe_int (fun _ _ => rfl)) (fun _ _ => rfl)) qe_int) (qg_subL (W := W0) (qe_var 8) (qe_ix (qe_var 6) qe_int (fun _ _ => rfl)))))) qss_nil))))
    (qss_cons (qs_if (qt_not (qt_val (qe_callB (cr_all rfl) ref_all (by rfl) B.all (by decide +kernel) (qa_cons (qe_lc (f := .frz) (own := [("count", 10)]) rfl nd (qi_lst (qe_var 8)) (blkOk_by (N := N_law) (sc := defScope s_law) (by decide +kernel)) (fun _ _ _ _ _ => (qgv_name (i := 10) (by decide) nd rfl (by first | exact Or.inl rfl | exact Or.inr rfl))) (fun _ _ _ _ _ => qts_nil) (fun _ _ _ _ _ => (qe_cmp (op_eqD hr.units) ref_eq (qe_var 10) (qe_ix (qe_var 8) qe_int (fun _ _ => rfl)) (nomark _)))) qa_nil)))) (qss_one (qs_ret qe_bl)) qss_nil)
    (qss_one (qs_ret (qe_and (qe_cmp (op_eqD hr.units) ref_eq (qe_call C.rolled hr (by decide) tk (by rfl) (qa_cons qe_int (qa_cons (qe_tup qa_nil) qa_nil))) (qe_tup (qa_cons qe_int (qa_cons qe_int qa_nil))) (nomark _)) (qe_one (qe_cmp (op_eqD hr.units) ref_eq (qe_call C.rolled hr (by decide) tk (by rfl) (qa_cons qe_int (qa_cons (qe_tup (qa_cons qe_int (qa_cons qe_int qa_nil))) qa_nil))) (qe_tup (qa_cons qe_int (qa_cons qe_int qa_nil))) (nomark _)))))))))))))) (fun ds l Qd Ed hl h => ?_)
  obtain ⟨ns, rfl, rfl, hn, q⟩ := h
  walk_at "q"
  refine ⟨ns, rfl, rfl, hn, fun p0 hp1 hp2 => ?_⟩
  walk_at "q"
  refine loopR (fun i σ l => ∃ (p : List Int) (x2 x3 x4 x5 x6 x7 x8 x9 x10 : Option QL.P), σ = [some (.d (.scr (ns.map .int))), some (.loc 0), x2, x3, x4, x5, x6, x7, x8, x9, x10] ∧ l = [.lst (p.map .int)] ∧ Pur p) ⟨p0, _, _, _, _, _, _, _, _, _, rfl, rfl, hp1, hp2⟩ ?_ ?_
  · rintro i σ l hi ⟨p, x2, x3, x4, x5, x6, x7, x8, x9, x10, rfl, rfl, hp⟩
    walk_at "q"
    refine ⟨p, 16, rfl, rfl, hp, by omega, by omega, fun r1 p1 a1 b1 hp1 => ?_⟩
    walk_at "q"
    split
    all_goals
      refine ⟨p1, _, rfl, rfl, hp1, by omega, by omega, fun r2 p2 a2 b2 hp2 => ?_⟩
      walk_at "q"
      refine ⟨p2, 15, rfl, rfl, hp2, by omega, by omega, fun r3 p3 a3 b3 hp3 => ?_⟩
      walk_at "q"
      obtain ⟨k3, rfl⟩ := Int.eq_ofNat_of_zero_le a3
      refine ⟨p3, k3, 2, rfl, rfl, hp3, by omega, by omega, by omega, fun fl p4 e4 h4 hp4 => ?_⟩
      walk_at "q"
      refine ⟨1 + r2, fl, rfl, rfl, by omega, ?_⟩
      walk_at "q"
      refine ⟨1 + r2, fl, rfl, rfl, by omega, ?_⟩
      have fl0 : ∀ f ∈ fl, 0 ≤ f := fun f hf => (h4 f hf).1
      generalize hR : rollF (1 + r2) fl 0 1 0 = R
      walk_at "q"
      refine ⟨rollD_ok R, rollD_ok R, ?_⟩
      rw [D.eqv_self (rollD_noB R)]
      walk_at "q"
      refine ⟨_, rfl, rfl, rollD_noB R, rollD_sz R, ?_⟩
      walk_at "q"
      cases R with
      | none =>
        simp only [rollD]
        walk_at "q"
        exact ⟨_, _, _, _, _, _, _, _, _, _, rfl, rfl, hp4⟩
      | some xk =>
        obtain ⟨x, k⟩ := xk
        obtain ⟨c0, c1, c2⟩ := rollF_cut fl 0 1 0 x k hR
        simp only [rollD]
        walk_at "q"
        refine ⟨p4, 3, 2, rfl, rfl, hp4, by omega, by omega, by omega, fun ext p5 e5 h5 hp5 => ?_⟩
        walk_at "q"
        refine ⟨Nat.le_of_lt (small1000 (by omega)), ⟨1 + r2, fl ++ ext, by simp, rfl, by simp; omega, ?_⟩⟩
        rw [rollF_app fl ext 0 1 0 _ hR]
        have E : D.eqv (.tup [.int x, .int (k : Int)]) (.tup [.int x, .int (k : Int)]) = true := D.eqv_self (by simp [noB])
        simp only [rollD]
        walk_at "q"
        rw [E]
        walk_at "q"
        rw [show QL.cutD (fl.map D.int) none (some (k : Int)) = (fl.take k).map D.int by rw [cutTake, List.map_take]]
        refine ⟨1 + r2, fl.take k, rfl, rfl, by simp; omega, ?_⟩
        rw [show rollF (1 + r2) (fl.take k) 0 1 0 = some (x, k) from c1]
        simp only [rollD]
        walk_at "q"
        rw [E]
        walk_at "q"
        split
        · rename_i hk
          have ek : (k : Int) - 1 = ((k - 1 : Nat) : Int) := by omega
          rw [ek, show QL.cutD (fl.map D.int) none (some ((k - 1 : Nat) : Int)) = (fl.take (k - 1)).map D.int by rw [cutTake, List.map_take]]
          refine ⟨1 + r2, fl.take (k - 1), rfl, rfl, by simp; omega, ?_⟩
          rw [c2 (k - 1) (by omega)]
          simp only [rollD]
          walk_at "q"
          exact ⟨_, _, _, _, _, _, _, _, _, _, rfl, rfl, hp5⟩
        · exact ⟨_, _, _, _, _, _, _, _, _, _, rfl, rfl, hp5⟩
  · rintro σ l ⟨p, x2, x3, x4, x5, x6, x7, x8, x9, x10, rfl, rfl, hp⟩
    walk_at "q"
    refine ⟨p, 9, rfl, rfl, hp, by omega, by omega, fun t0 p1 a1 b1 hp1 => ?_⟩
    walk_at "q"
    refine ⟨p1, 8, rfl, rfl, hp1, by omega, by omega, fun k0 p2 a2 b2 hp2 => ?_⟩
    walk_at "q"
    obtain ⟨t, rfl⟩ := Int.eq_ofNat_of_zero_le a1
    obtain ⟨k, rfl⟩ := Int.eq_ofNat_of_zero_le a2
    refine ⟨by omega, by omega, ?_⟩
    refine lcI (fun i acc l => acc = (List.range i).map (fun _ => D.int 0) ∧ l = [.lst (p2.map .int)]) (by rw [rangeD_len]; exact small1000 (by omega)) ⟨rfl, rfl⟩ ?_ ?_
    · rintro i x acc l hx ha ⟨hacc, rfl⟩
      walk_at "q"
      exact ⟨⟨by simp [ha], by have := (rangeD_get hx).1; omega⟩, rng_snoc (y := fun _ => D.int 0) hacc⟩
    · rintro acc l ha ⟨hacc, rfl⟩
      walk_at "q"
      have hpow : (2 : Int) ^ (Int.toNat (k : Int)) = ((2 ^ k : Nat) : Int) := by
        rw [Int.toNat_natCast, Int.natCast_pow]
        rfl
      have hk7 : k ≤ 7 := by omega
      have hp7 : 2 ^ k ≤ 2 ^ 7 := Nat.pow_le_pow_right (by omega) hk7
      have hp1' : 0 < 2 ^ k := Nat.pow_pos (by omega)
      refine ⟨⟨by omega, by omega, by decide⟩, by rw [hpow]; omega, by rw [hpow]; omega, ?_⟩
      rw [rangeD_len] at hacc ha
      have et : (1 + (t : Int)).toNat = t + 1 := by omega
      have e2 : (1 * (2 : Int) ^ (Int.toNat (k : Int))).toNat = 2 ^ k := by rw [hpow]; omega
      rw [e2]
      rw [et] at ha hacc
      refine loopR (fun i σ l => ∃ (x6 x9 : Option QL.P) (cs : List Nat), σ = [some (.d (.scr (ns.map .int))), some (.loc 0), x2, some (.d (.int (1 + (t : Int)))), x4, x5, x6, some (.d (.int k)), some (.loc 1), x9, x10] ∧ l = [.lst (p2.map .int), .lst (cs.map fun (n : Nat) => D.int (n : Int))] ∧ cs = (List.range (t + 1)).map (hits (t + 1) k i)) ?_ ?_ ?_
      · refine ⟨_, _, (List.range (t + 1)).map (hits (t + 1) k 0), rfl, ?_, rfl⟩
        rw [hacc, List.map_map]
        rfl
      · rintro i σ l hi ⟨x6, x9, cs, rfl, rfl, hcs⟩
        walk_at "q"
        refine ⟨i, k, rfl, rfl, by omega, ?_⟩
        walk_at "q"
        refine ⟨_, _, rfl, rfl, ?_, ?_⟩
        · unfold bitsF
          simp; omega
        rw [bitsF_N, show (1 : Int) + (t : Int) = ((t + 1 : Nat) : Int) by omega]
        generalize hR : rollF ((t + 1 : Nat) : Int) (bitsN i k) 0 1 0 = R
        have hlen : ∀ L, (bitsN i L).length = L := by
          intro L
          induction L with
          | zero => rfl
          | succ L ih => simp [bitsN, ih]
        have hnn : ∀ L, ∀ f ∈ bitsN i L, 0 ≤ f := by
          intro L
          induction L with
          | zero => intro f hf; simp [bitsN] at hf
          | succ L ih =>
            intro f hf
            rcases List.mem_cons.mp hf with h | h
            · rw [h]; omega
            · exact ih f h
        have hstep : ∀ y, hits (t + 1) k (i + 1) y = hits (t + 1) k i y + (if R.map (·.1) = some (y : Int) then 1 else 0) := fun y => by
          unfold hits
          rw [List.range_succ, List.countP_append, ← hR]
          simp only [List.countP_cons, List.countP_nil, Nat.zero_add]
          congr 1
          by_cases hq : (rollF ((t + 1 : Nat) : Int) (bitsN i k) 0 1 0).map (·.1) = some (y : Int)
          · rw [if_pos hq, if_pos (decide_eq_true hq)]
          · rw [if_neg hq, if_neg (by simpa using hq)]
        cases R with
        | none =>
          simp only [rollD]
          walk_at "q"
          exact ⟨_, _, cs, rfl, rfl, by rw [hcs]; apply List.map_congr_left; intro y _; rw [hstep y]; simp⟩
        | some xk =>
          obtain ⟨x, u⟩ := xk
          obtain ⟨b0, b1, b2⟩ := rollF_in (bitsN i k) 0 1 0 x u (by omega) (hnn k) hR
          rw [hlen] at b2
          obtain ⟨z, rfl⟩ := Int.eq_ofNat_of_zero_le b0
          simp only [rollD]
          walk_at "q"
          have hz : z < t + 1 := by omega
          have hcl : cs.length = t + 1 := by rw [hcs]; simp
          have hcz : cs[z]? = some (hits (t + 1) k i z) := by rw [hcs, List.getElem?_map, List.getElem?_range hz]; rfl
          rw [if_pos b0, if_neg (by omega), if_pos (by omega), if_neg (by omega)]
          refine ⟨_, atI_m (f := fun n : Nat => D.int (n : Int)) rfl hcz, z, ixN_n rfl (by omega), _, _, cs.set z (hits (t + 1) k i z + 1), rfl, ?_, ?_⟩
          · rw [List.map_set]
            rfl
          · rw [hcs]
            apply List.ext_getElem?
            intro y
            rw [List.getElem?_map]
            by_cases hy : y < t + 1
            · rw [List.getElem?_range hy]
              have hs := hstep y
              simp only [Option.map_some, Option.some.injEq] at hs ⊢
              rw [hs]
              by_cases e : z = y
              · subst e
                rw [List.getElem?_set_self (by simpa using hz)]
                simp
              · rw [List.getElem?_set_ne e, List.getElem?_map, List.getElem?_range hy]
                have : ¬ (z : Int) = (y : Int) := by omega
                simp [this]
            · rw [List.getElem?_eq_none (by simp; omega), List.getElem?_eq_none (by simp; omega)]
              rfl
      · rintro σ l ⟨x6, x9, cs, rfl, rfl, hcs⟩
        walk_at "q"
        refine lcC (fun i acc l => acc = (List.range i).map (fun _ => D.bl true) ∧ l = [.lst (p2.map .int), .lst (cs.map fun (n : Nat) => D.int (n : Int))]) (by rw [hcs]; simp; exact small1000 (by omega)) ⟨rfl, rfl⟩ (fun i acc l h => by rw [h.2]; rfl) ?_ ?_
        · rintro i x acc l hx ha ⟨hacc, rfl⟩
          walk_at "q"
          have hcl : cs.length = t + 1 := by rw [hcs]; simp
          have hi := (List.getElem?_eq_some_iff.mp hx).1
          simp only [List.length_map] at hi
          have hc : ∀ y, y < t + 1 → cs[y]? = some (hits (t + 1) k (2 ^ k) y) := fun y hy => by rw [hcs, List.getElem?_map, List.getElem?_range hy]; rfl
          rw [List.getElem?_map, hc i (by omega)] at hx
          obtain rfl : D.int ((hits (t + 1) k (2 ^ k) i : Nat) : Int) = x := Option.some.inj hx
          refine ⟨_, atI_m (f := fun n : Nat => D.int (n : Int)) (j := 0) rfl (hc 0 (by omega)), by simp [dOk_int], by simp [dOk_int], ⟨by omega, by omega⟩, ?_⟩
          rw [D.eqv_int, hits_fair (t + 1) k i 0 (by omega) (by omega), decide_eq_true rfl]
          exact rng_snoc (y := fun _ => D.bl true) hacc
        · rintro acc l ha ⟨hacc, rfl⟩
          walk_at "q"
          refine ⟨List.replicate cs.length true, by rw [hacc]; simp [List.map_const'], ?_⟩
          rw [show (List.replicate cs.length true).all id = true by simp]
          walk_at "q"
          refine ⟨1, [], rfl, rfl, by simp, ?_⟩
          rw [show rollF 1 [] 0 1 0 = some (0, 0) by rfl]
          simp only [rollD]
          walk_at "q"
          rw [show D.eqv (.tup [.int 0, .int 0]) (.tup [.int 0, .int 0]) = true from D.eqv_self (by simp [noB])]
          walk_at "q"
          refine ⟨1, [1, 1], rfl, rfl, by simp, ?_⟩
          rw [show rollF 1 [1, 1] 0 1 0 = some (0, 0) by rfl]
          simp only [rollD]
          walk_at "q"
          rw [show D.eqv (.tup [.int 0, .int 0]) (.tup [.int 0, .int 0]) = true from D.eqv_self (by simp [noB])]
          exact q
end
set_option maxHeartbeats 0 in
theorem all_mk {l : PySem.W.OpenLaw} {w : World} {K : PySem.W.Frag} {h : Heap} {mg : Str → Option Value} {fa f0 f1 f2 f3 f4 f5 f6 f7 f8 : Addr} (X : K.In h) (G : h.Ns mainGlobals mg) (hfa : mg "law" = some (.ref fa))
    {od0 an0 od1 an1 od2 an2 od3 an3 od4 an4 od5 an5 od6 an6 od7 an7 od8 an8 : Option Addr} {sl0 sl1 sl2 sl3 sl4 sl5 sl6 sl7 sl8 : Array (Option Value)} {oc0 kV0 dc0 pm0 cd0 ct0 oc1 kV1 dc1 pm1 cd1 ct1 oc2 kV2 dc2 pm2 cd2 ct2 oc3 kV3 dc3 pm3 cd3 ct3 oc4 kV4 dc4 pm4 cd4 ct4 oc5 kV5 dc5 pm5 cd5 ct5 oc6 kV6 dc6 pm6 cd6 ct6 oc7 kV7 dc7 pm7 cd7 ct7 oc8 kV8 dc8 pm8 cd8 ct8 : Value}
    (a0 : PySem.W.nsIn K mainGlobals "rolled" = some (some (.ref f0))) (l0 : K.lookup f0 = some ⟨oc0, od0, .func (PySem.W.fnOf "rolled" "rolled" (defArgs s_rolled) (defBody s_rolled) (defScope s_rolled) .none kV0 dc0 pm0 an0 cd0 ct0), sl0⟩) (c0 : PySem.W.codeIn K cd0 "rolled" = true) (k0 : PySem.W.keepIn K (.ref f0) = true)
    (a1 : PySem.W.nsIn K mainGlobals "_law_mixed" = some (some (.ref f1))) (l1 : K.lookup f1 = some ⟨oc1, od1, .func (PySem.W.fnOf "_law_mixed" "_law_mixed" (defArgs s_law_mixed) (defBody s_law_mixed) (defScope s_law_mixed) .none kV1 dc1 pm1 an1 cd1 ct1), sl1⟩) (c1 : PySem.W.codeIn K cd1 "_law_mixed" = true) (k1 : PySem.W.keepIn K (.ref f1) = true)
    (a2 : PySem.W.nsIn K mainGlobals "_law_purse" = some (some (.ref f2))) (l2 : K.lookup f2 = some ⟨oc2, od2, .func (PySem.W.fnOf "_law_purse" "_law_purse" (defArgs s_law_purse) (defBody s_law_purse) (defScope s_law_purse) .none kV2 dc2 pm2 an2 cd2 ct2), sl2⟩) (c2 : PySem.W.codeIn K cd2 "_law_purse" = true) (k2 : PySem.W.keepIn K (.ref f2) = true)
    (a3 : PySem.W.nsIn K mainGlobals "_law_take" = some (some (.ref f3))) (l3 : K.lookup f3 = some ⟨oc3, od3, .func (PySem.W.fnOf "_law_take" "_law_take" (defArgs s_law_take) (defBody s_law_take) (defScope s_law_take) .none kV3 dc3 pm3 an3 cd3 ct3), sl3⟩) (c3 : PySem.W.codeIn K cd3 "_law_take" = true) (k3 : PySem.W.keepIn K (.ref f3) = true)
    (a4 : PySem.W.nsIn K mainGlobals "_law_row" = some (some (.ref f4))) (l4 : K.lookup f4 = some ⟨oc4, od4, .func (PySem.W.fnOf "_law_row" "_law_row" (defArgs s_law_row) (defBody s_law_row) (defScope s_law_row) .none kV4 dc4 pm4 an4 cd4 ct4), sl4⟩) (c4 : PySem.W.codeIn K cd4 "_law_row" = true) (k4 : PySem.W.keepIn K (.ref f4) = true)
    (a5 : PySem.W.nsIn K mainGlobals "_law_truth" = some (some (.ref f5))) (l5 : K.lookup f5 = some ⟨oc5, od5, .func (PySem.W.fnOf "_law_truth" "_law_truth" (defArgs s_law_truth) (defBody s_law_truth) (defScope s_law_truth) .none kV5 dc5 pm5 an5 cd5 ct5), sl5⟩) (c5 : PySem.W.codeIn K cd5 "_law_truth" = true) (k5 : PySem.W.keepIn K (.ref f5) = true)
    (a6 : PySem.W.nsIn K mainGlobals "_law_rolled" = some (some (.ref f6))) (l6 : K.lookup f6 = some ⟨oc6, od6, .func (PySem.W.fnOf "_law_rolled" "_law_rolled" (defArgs s_law_rolled) (defBody s_law_rolled) (defScope s_law_rolled) .none kV6 dc6 pm6 an6 cd6 ct6), sl6⟩) (c6 : PySem.W.codeIn K cd6 "_law_rolled" = true) (k6 : PySem.W.keepIn K (.ref f6) = true)
    (a7 : PySem.W.nsIn K mainGlobals "_law_flips" = some (some (.ref f7))) (l7 : K.lookup f7 = some ⟨oc7, od7, .func (PySem.W.fnOf "_law_flips" "_law_flips" (defArgs s_law_flips) (defBody s_law_flips) (defScope s_law_flips) .none kV7 dc7 pm7 an7 cd7 ct7), sl7⟩) (c7 : PySem.W.codeIn K cd7 "_law_flips" = true) (k7 : PySem.W.keepIn K (.ref f7) = true)
    (a8 : PySem.W.nsIn K mainGlobals "law" = some (some (.ref f8))) (l8 : K.lookup f8 = some ⟨oc8, od8, .func (PySem.W.fnOf "law" "law" (defArgs s_law) (defBody s_law) (defScope s_law) .none kV8 dc8 pm8 an8 cd8 ct8), sl8⟩) (c8 : PySem.W.codeIn K cd8 "law" = true) (k8 : PySem.W.keepIn K (.ref f8) = true)
    (z0 : PySem.W.nsIn K mainGlobals "all" = some none) (z1 : PySem.W.nsIn K mainGlobals "bool" = some none) (z2 : PySem.W.nsIn K mainGlobals "int" = some none) (z3 : PySem.W.nsIn K mainGlobals "isinstance" = some none) (z4 : PySem.W.nsIn K mainGlobals "len" = some none) (z5 : PySem.W.nsIn K mainGlobals "range" = some none) (z6 : PySem.W.nsIn K mainGlobals "tuple" = some none) :
    ∃ fd : FuncData, (∀ (s : Shared) (v : Value), BindsTo s fd ⟨[v], []⟩ [("script", v)]) ∧ ∀ base : Heap, K.In base → base.Ns mainGlobals mg → FnOk l.prog w K mg base (L2.CX l.prog w) 3 fa fd ["script"] (spQ K 1 fs_law) := by
  have e := hfa.symm.trans (PySem.W.mg_of X G a8)
  cases e
  have B : Bt mg := ⟨PySem.W.mg_none_of X G z0, PySem.W.mg_none_of X G z1, PySem.W.mg_none_of X G z2, PySem.W.mg_none_of X G z3, PySem.W.mg_none_of X G z4, PySem.W.mg_none_of X G z5, PySem.W.mg_none_of X G z6⟩
  have F0 := fun_mk (st := s_rolled) l0 c0 k0
  have F1 := fun_mk (st := s_law_mixed) l1 c1 k1
  have F2 := fun_mk (st := s_law_purse) l2 c2 k2
  have F3 := fun_mk (st := s_law_take) l3 c3 k3
  have F4 := fun_mk (st := s_law_row) l4 c4 k4
  have F5 := fun_mk (st := s_law_truth) l5 c5 k5
  have F6 := fun_mk (st := s_law_rolled) l6 c6 k6
  have F7 := fun_mk (st := s_law_flips) l7 c7 k7
  have F8 := fun_mk (st := s_law) l8 c8 k8
  refine ⟨PySem.W.fnOf "law" "law" (defArgs s_law) (defBody s_law) (defScope s_law) .none kV8 dc8 pm8 an8 cd8 ct8, fun s v => .of_eq rfl, fun base _ _ => ?_⟩
  have q0 := calq F0 (PySem.W.mg_of X G a0) (ok_rolled (P := l.prog) (w := w) (mg := mg) (base := base) F0 B) (fun _ _ _ _ _ _ us hl => match us, hl with | [_, _], _ => rfl)
  have q1 := calq F1 (PySem.W.mg_of X G a1) (ok_law_mixed (P := l.prog) (w := w) (mg := mg) (base := base) F1 B) (fun _ _ _ _ _ _ us hl => match us, hl with | [_, _], _ => rfl)
  have q2 := calq F2 (PySem.W.mg_of X G a2) (ok_law_purse (P := l.prog) (w := w) (mg := mg) (base := base) F2 B ⟨q1⟩) (fun _ _ _ _ _ _ us hl => match us, hl with | [_], _ => rfl)
  have q3 := calq F3 (PySem.W.mg_of X G a3) (ok_law_take (P := l.prog) (w := w) (mg := mg) (base := base) F3 B) (fun _ _ _ _ _ _ us hl => match us, hl with | [_, _], _ => rfl)
  have q4 := calq F4 (PySem.W.mg_of X G a4) (ok_law_row (P := l.prog) (w := w) (mg := mg) (base := base) F4 B ⟨q3⟩) (fun _ _ _ _ _ _ us hl => match us, hl with | [_, _, _], _ => rfl)
  have q5 := calq F5 (PySem.W.mg_of X G a5) (ok_law_truth (P := l.prog) (w := w) (mg := mg) (base := base) F5 B) (fun _ _ _ _ _ _ us hl => match us, hl with | [_], _ => rfl)
  have q6 := calq F6 (PySem.W.mg_of X G a6) (ok_law_rolled (P := l.prog) (w := w) (mg := mg) (base := base) F6 B) (fun _ _ _ _ _ _ us hl => match us, hl with | [_, _], _ => rfl)
  have q7 := calq F7 (PySem.W.mg_of X G a7) (ok_law_flips (P := l.prog) (w := w) (mg := mg) (base := base) F7 B) (fun _ _ _ _ _ _ us hl => match us, hl with | [_, _], _ => rfl)
  exact ok_law F8 B ⟨q0, q2, q3, q4, q5, q6, q7⟩
end W35
open PySem PySem.W PyProof.Rows
set_option maxHeartbeats 0 in
theorem PySem.Challenge.cw_columnwright_k35_rolled_holds : PySem.Challenge.rw_columnwright_k35_rolled.Holds := by
  w_on; o_law; k_head; (case hw => w_witness2)
  k_fill
  refine L2.walk_of (l := PySem.Challenge.rw_columnwright_k35_rolled) (n := 63) (k := 3) (x := "script") (CX := fun w => L2.CX PySem.Challenge.rw_columnwright_k35_rolled.prog w) (sp := fun w => QL.spQ _ 1 W35.fs_law) rfl (by decide) rfl ⟨rfl, by decide, by decide⟩ (fun w h Y => PySem.W.kIn_of Y) ?F (fun _ _ a ns hl hO hS => QL.end_sp hO hS (W35.fs_end ns hl)) (fun _ _ _ _ _ h => QL.end_cx h)
  case F =>
    intro w mg fa h KX G hmg
    refine' W35.all_mk KX G hmg ?a0 ?l0 ?c0 ?k0 ?a1 ?l1 ?c1 ?k1 ?a2 ?l2 ?c2 ?k2 ?a3 ?l3 ?c3 ?k3 ?a4 ?l4 ?c4 ?k4 ?a5 ?l5 ?c5 ?k5 ?a6 ?l6 ?c6 ?k6 ?a7 ?l7 ?c7 ?k7 ?a8 ?l8 ?c8 ?k8 ?z0 ?z1 ?z2 ?z3 ?z4 ?z5 ?z6
    (case a0 => k_is); (case l0 => k_is); (case c0 => k_is); (case k0 => k_is); (case a1 => k_is); (case l1 => k_is); (case c1 => k_is); (case k1 => k_is); (case a2 => k_is); (case l2 => k_is); (case c2 => k_is); (case k2 => k_is); (case a3 => k_is); (case l3 => k_is); (case c3 => k_is); (case k3 => k_is); (case a4 => k_is); (case l4 => k_is); (case c4 => k_is); (case k4 => k_is); (case a5 => k_is); (case l5 => k_is); (case c5 => k_is); (case k5 => k_is); (case a6 => k_is); (case l6 => k_is); (case c6 => k_is); (case k6 => k_is); (case a7 => k_is); (case l7 => k_is); (case c7 => k_is); (case k7 => k_is); (case a8 => k_is); (case l8 => k_is); (case c8 => k_is); (case k8 => k_is); (case z0 => k_is); (case z1 => k_is); (case z2 => k_is); (case z3 => k_is); (case z4 => k_is); (case z5 => k_is); (case z6 => k_is)
