import PyProof.Rows.All
import Wide.All
import OpenK.AllK
import Wide.FinOn
import HandS.ForMost
import HandS.ForExc
import HandS.ForSpec
import HandS.Conv
import HandS.TupAny
import HandS.Wide
import HandS.IsInst
import KE.KExcSuper
import HandS.ExcInit
import HandS.ExcField
import HandS.ExcIs
import HandS.TupMul
import PyProof.StrLawsIn
import HandS.Deep
import HandS.Dict
import KE.KDictDisplayH
import HandS.WordsDict
import HandS.TupLen
import PySem.Challenge.RW_columnwright_k08_machines_joined
set_option Elab.async false
set_option linter.all false
set_option maxRecDepth 100000
set_option maxHeartbeats 4000000
/-! QL: a layer of plain data over the hand layer. Values D have no addresses; what may change stands in numbered cells. -/
namespace QL
open PySem L2

inductive D where
  | non | bl (b : Bool) | int (i : Int) | str (x : Str) | ty (n : String)
  | tup (xs : List D) | lst (xs : List D) | scr (xs : List D) | ktu (xs : List D)
  | dk (ks : List Key) (vs : List D) | dt (ks : List (List Key)) (vs : List D)
  | obj (C : Addr) (ns : List Str) (vs : List D)

/-- an exception: its class, its fields -/
inductive Ex where
  | own (x : Str) (ns : List Str) (vs : List D)
  | blt (n : String)

inductive P where
  | d (x : D) | loc (n : Nat)
  | exc (a : Addr) (cls : Value) (dd : Option Addr) (ex : Ex)

inductive Cell where
  | lst (xs : List D) | frz (xs : List D)
  | dk (kvs : List (Key × D)) | dt (kvs : List (List Key × D)) | fz (x : D)

abbrev LS := List Cell
abbrev SS := List (Option P)

/-- a point: the abstract heap, the addresses of the cells, what never changes any more -/
structure Pt where
  H : Hp
  rho : List Addr
  F : Addr → Prop

/-- where the module's name x stands for an object -/
def clsA (K : PySem.W.Frag) (x : Str) : Addr := match PySem.W.nsIn K mainGlobals x with
  | some (some (.ref a)) => a
  | _ => 0
section
variable (K : PySem.W.Frag)
def TupAt (_ : PySem.W.Frag) (p : Pt) (a : Addr) (vs : List V) : Prop := p.F a ∧ p.H a = some (.tup vs)
def LstAt (p : Pt) (a : Addr) (vs : List V) : Prop := p.F a ∧ p.H a = some (.lst vs)
def ScrAt (p : Pt) (a : Addr) (vs : List V) : Prop := (p.F a ∧ Rd p.H a (.lst vs)) ∨ SqL K (fun _ => none) a vs
mutual
inductive RD (p : Pt) : D → V → Prop
  | non : RD p .non .non
  | bl (b : Bool) : RD p (.bl b) (.bl b)
  | int (i : Int) : RD p (.int i) (.int i)
  | str (x : Str) : RD p (.str x) (.str x)
  | ty (n : String) : RD p (.ty n) (.ty n)
  | tup {a : Addr} {xs : List D} {vs : List V} : TupAt K p a vs → RDs p xs vs → RD p (.tup xs) (.ref a)
  | lst {a : Addr} {xs : List D} {vs : List V} : LstAt p a vs → RDs p xs vs → RD p (.lst xs) (.ref a)
  | scr {a : Addr} {xs : List D} {vs : List V} : ScrAt K p a vs → RDs p xs vs → RD p (.scr xs) (.ref a)
  | ktu {a : Addr} {xs : List D} {vs : List V} : SqT K (fun _ => none) a vs → RDs p xs vs → RD p (.ktu xs) (.ref a)
  | dk {a : Addr} {ks : List Key} {xs : List D} {vs : List V} : p.F a → p.H a = some (.dK (ks.zip vs)) → ks.length = xs.length → RDs p xs vs → RD p (.dk ks xs) (.ref a)
  | dt {a : Addr} {ks : List (List Key)} {xs : List D} {vs : List V} : p.F a → p.H a = some (.dT (ks.zip vs)) → ks.length = xs.length → RDs p xs vs → RD p (.dt ks xs) (.ref a)
  | obj {a C dx : Addr} {ns : List Str} {xs : List D} {vs : List V} : p.F a → p.H a = some (.ins C dx (ns.zip vs)) → RDs p xs vs → RD p (.obj C ns xs) (.ref a)
inductive RDs (p : Pt) : List D → List V → Prop
  | nil : RDs p [] []
  | cons {x : D} {v : V} {xs : List D} {vs : List V} : RD p x v → RDs p xs vs → RDs p (x :: xs) (v :: vs)
end
def XR (p : Pt) : Ex → Value → Option Addr → Prop
  | .own x ns xs, cls, d => cls = .ref (clsA K x) ∧ ∃ a vs, d = some a ∧ p.F a ∧ p.H a = some (.xd (ns.zip vs)) ∧ RDs K p xs vs
  | .blt n, cls, d => cls = .type n ∧ d = none
def RP (p : Pt) : P → V → Prop
  | .d x, v => RD K p x v
  | .loc n, v => ∃ a, p.rho[n]? = some a ∧ v = .ref a
  | .exc a cls d ex, v => v = .ref a ∧ XR K p ex cls d
def CellOk (p : Pt) : Cell → Addr → Prop
  | .lst xs, a => ¬ p.F a ∧ ∃ vs, p.H a = some (.lst vs) ∧ RDs K p xs vs
  | .frz xs, a => ∃ vs, LstAt p a vs ∧ RDs K p xs vs
  | .dk kvs, a => ¬ p.F a ∧ ∃ vs, p.H a = some (.dK ((kvs.map (·.1)).zip vs)) ∧ RDs K p (kvs.map (·.2)) vs
  | .dt kvs, a => ¬ p.F a ∧ ∃ vs, p.H a = some (.dT ((kvs.map (·.1)).zip vs)) ∧ RDs K p (kvs.map (·.2)) vs
  | .fz x, a => RD K p x (.ref a)
structure WF (p : Pt) : Prop where
  nd : p.rho.Nodup
  hs : ∀ a ∈ p.rho, ∃ o, p.H a = some o
  fs : ∀ a, p.F a → ∃ o, p.H a = some o
structure HF (p p' : Pt) : Prop where
  fm : ∀ a, p.F a → p'.F a
  keepF : ∀ b o, p.H b = some o → p.F b → p'.H b = some o
structure Ext (p p' : Pt) : Prop where
  pre : ∃ t, p'.rho = p.rho ++ t
  new : ∀ a ∈ p'.rho, a ∈ p.rho ∨ p.H a = none
  fm : ∀ a, p.F a → p'.F a
  fn : ∀ a, p'.F a → p.F a ∨ p.H a = none ∨ a ∈ p.rho
  keep : ∀ b o, p.H b = some o → b ∉ p.rho → p'.H b = some o
  keepF : ∀ b o, p.H b = some o → p.F b → p'.H b = some o
  there : ∀ b o, p.H b = some o → ∃ o', p'.H b = some o'
def Cells (p : Pt) (l : LS) : Prop := l.length = p.rho.length ∧ ∀ (i : Nat) (c : Cell), l[i]? = some c → ∃ a, p.rho[i]? = some a ∧ CellOk K p c a
def Slots (p : Pt) (σd : SS) (σ : St) : Prop := σd.length = σ.length ∧ ∀ (i : Nat) (d : P), σd[i]? = some (some d) → ∃ v, σ[i]? = some (some v) ∧ RP K p d v
structure Rel (p : Pt) (σ : St) (σd : SS) (l : LS) : Prop where
  wf : WF p
  sl : Slots K p σd σ
  ce : Cells K p l
end

section
variable {K : PySem.W.Frag} {p p' p'' : Pt} {a : Addr}
theorem Ext.refl (p : Pt) : Ext p p := ⟨⟨[], by simp⟩, fun _ h => .inl h, fun _ h => h, fun _ h => .inl h, fun _ _ h _ => h, fun _ _ h _ => h, fun _ o h => ⟨o, h⟩⟩
theorem none_back (e : Ext p p') (h : p'.H a = none) : p.H a = none := by
  cases q : p.H a with
  | none => rfl
  | some o =>
    obtain ⟨o', z⟩ := e.there _ _ q
    rw [h] at z
    cases z
theorem Ext.trans (e : Ext p p') (f : Ext p' p'') : Ext p p'' := by
  obtain ⟨t, ht⟩ := e.pre
  obtain ⟨u, hu⟩ := f.pre
  refine ⟨⟨t ++ u, by rw [hu, ht, List.append_assoc]⟩, fun a h => ?_, fun a h => f.fm a (e.fm a h), fun a h => ?_, fun b o h n => ?_, fun b o h n => f.keepF b o (e.keepF b o h n) (e.fm b n), fun b o h => ?_⟩
  · rcases f.new a h with h | h
    · exact e.new a h
    · exact .inr (none_back e h)
  · rcases f.fn a h with h | h | h
    · exact e.fn a h
    · exact .inr (.inl (none_back e h))
    · rcases e.new a h with h | h
      · exact .inr (.inr h)
      · exact .inr (.inl h)
  · by_cases m : b ∈ p'.rho
    · rcases e.new b m with z | z
      · exact absurd z n
      · rw [h] at z; cases z
    · exact f.keep b o (e.keep b o h n) m
  · obtain ⟨o', h'⟩ := e.there b o h
    exact f.there b o' h'
theorem rd_keep {H H' : Hp} {u : HO} (h : Rd H a u) (k : ∀ o, H a = some o → H' a = some o) : Rd H' a u := by
  rcases h with h | ⟨o, h⟩
  · exact .inl (k _ h)
  · exact .inr ⟨o, k _ h⟩
theorem Ext.hf (e : Ext p p') : HF p p' := ⟨e.fm, e.keepF⟩
theorem TupAt.mono {vs : List V} (e : HF p p') (h : TupAt K p a vs) : TupAt K p' a vs := ⟨e.fm _ h.1, e.keepF _ _ h.2 h.1⟩
theorem LstAt.mono {vs : List V} (e : HF p p') (h : LstAt p a vs) : LstAt p' a vs := ⟨e.fm _ h.1, e.keepF _ _ h.2 h.1⟩
theorem ScrAt.mono {vs : List V} (e : HF p p') (h : ScrAt K p a vs) : ScrAt K p' a vs := by
  rcases h with ⟨f, h⟩ | h
  · exact .inl ⟨e.fm _ f, rd_keep h fun o z => e.keepF _ _ z f⟩
  · exact .inr h
theorem seqT_empty {H : Hp} {vs : List V} (h : SqT K (fun _ => none) a vs) : SqT K H a vs := by
  rcases h with (h | ⟨o, h⟩) | h
  · cases h
  · cases h
  · exact .inr h
theorem seqL_empty {H : Hp} {vs : List V} (h : SqL K (fun _ => none) a vs) : SqL K H a vs := by
  rcases h with (h | ⟨o, h⟩) | h
  · cases h
  · cases h
  · exact .inr h
theorem TupAt.sq {vs : List V} (h : TupAt K p a vs) : SqT K p.H a vs := .inl (.inl h.2)
theorem LstAt.sq {vs : List V} (h : LstAt p a vs) : SqL K p.H a vs := .inl (.inl h.2)
theorem ScrAt.sq {vs : List V} (h : ScrAt K p a vs) : SqL K p.H a vs := by
  rcases h with ⟨_, h⟩ | h
  · exact .inl h
  · exact seqL_empty h
mutual
theorem RD.mono (e : HF p p') : ∀ {x : D} {v : V}, RD K p x v → RD K p' x v
  | _, _, .non => .non
  | _, _, .bl b => .bl b
  | _, _, .int i => .int i
  | _, _, .str x => .str x
  | _, _, .ty n => .ty n
  | _, _, .tup h r => .tup (h.mono e) (RDs.mono e r)
  | _, _, .lst h r => .lst (h.mono e) (RDs.mono e r)
  | _, _, .scr h r => .scr (h.mono e) (RDs.mono e r)
  | _, _, .ktu h r => .ktu h (RDs.mono e r)
  | _, _, .dk f h n r => .dk (e.fm _ f) (e.keepF _ _ h f) n (RDs.mono e r)
  | _, _, .dt f h n r => .dt (e.fm _ f) (e.keepF _ _ h f) n (RDs.mono e r)
  | _, _, .obj f h r => .obj (e.fm _ f) (e.keepF _ _ h f) (RDs.mono e r)
theorem RDs.mono (e : HF p p') : ∀ {xs : List D} {vs : List V}, RDs K p xs vs → RDs K p' xs vs
  | _, _, .nil => .nil
  | _, _, .cons h r => .cons (RD.mono e h) (RDs.mono e r)
end
theorem RDs.len : ∀ {xs : List D} {vs : List V}, RDs K p xs vs → xs.length = vs.length
  | _, _, .nil => rfl
  | _, _, .cons _ r => by simp [RDs.len r]
theorem RDs.get : ∀ {xs : List D} {vs : List V} {i : Nat} {x : D}, RDs K p xs vs → xs[i]? = some x → ∃ v, vs[i]? = some v ∧ RD K p x v
  | _, _, _, _, .nil, h => by simp at h
  | _, _, 0, _, .cons h _, e => ⟨_, rfl, by simp at e; rw [← e]; exact h⟩
  | _, _, i + 1, _, .cons _ r, e => by
    obtain ⟨v, h1, h2⟩ := RDs.get (i := i) r (by simpa using e)
    exact ⟨v, by simpa using h1, h2⟩
theorem RDs.append : ∀ {xs ys : List D} {vs ws : List V}, RDs K p xs vs → RDs K p ys ws → RDs K p (xs ++ ys) (vs ++ ws)
  | _, _, _, _, .nil, s => s
  | _, _, _, _, .cons h r, s => .cons h (RDs.append r s)
theorem RDs.set {x : D} {v : V} (h : RD K p x v) : ∀ {xs : List D} {vs : List V} (i : Nat), RDs K p xs vs → RDs K p (xs.set i x) (vs.set i v)
  | _, _, _, .nil => .nil
  | _, _, 0, .cons _ t => .cons h t
  | _, _, i + 1, .cons q t => .cons q (RDs.set h i t)
theorem RDs.take : ∀ {xs : List D} {vs : List V} (n : Nat), RDs K p xs vs → RDs K p (xs.take n) (vs.take n)
  | _, _, 0, _ => .nil
  | _, _, _ + 1, .nil => .nil
  | _, _, n + 1, .cons h t => .cons h (RDs.take n t)
theorem RDs.drop : ∀ {xs : List D} {vs : List V} (n : Nat), RDs K p xs vs → RDs K p (xs.drop n) (vs.drop n)
  | _, _, 0, h => h
  | _, _, _ + 1, .nil => .nil
  | _, _, n + 1, .cons _ t => RDs.drop n t
theorem RDs.reverse : ∀ {xs : List D} {vs : List V}, RDs K p xs vs → RDs K p xs.reverse vs.reverse
  | _, _, .nil => .nil
  | _, _, .cons h r => by
    rw [List.reverse_cons, List.reverse_cons]
    exact RDs.append (RDs.reverse r) (.cons h .nil)
theorem RDs.eraseIdx : ∀ {xs : List D} {vs : List V} (n : Nat), RDs K p xs vs → RDs K p (xs.eraseIdx n) (vs.eraseIdx n)
  | _, _, _, .nil => .nil
  | _, _, 0, .cons _ t => t
  | _, _, n + 1, .cons h t => .cons h (RDs.eraseIdx n t)
theorem RDs.dropLast {xs : List D} {vs : List V} (h : RDs K p xs vs) : RDs K p xs.dropLast vs.dropLast := by
  rw [List.dropLast_eq_take, List.dropLast_eq_take, h.len]
  exact h.take _
theorem XR.mono (e : HF p p') {ex : Ex} {c : Value} {d : Option Addr} (h : XR K p ex c d) : XR K p' ex c d := by
  cases ex with
  | own C ns xs =>
    obtain ⟨h1, a, vs, h2, f, h3, h4⟩ := h
    exact ⟨h1, a, vs, h2, e.fm _ f, e.keepF _ _ h3 f, h4.mono e⟩
  | blt n => exact h
theorem RP.mono (e : Ext p p') {x : P} {v : V} (h : RP K p x v) : RP K p' x v := by
  cases x with
  | d x => exact RD.mono e.hf h
  | loc n =>
    obtain ⟨a, h1, h2⟩ := h
    obtain ⟨t, ht⟩ := e.pre
    refine ⟨a, ?_, h2⟩
    rw [ht, List.getElem?_append_left]
    · exact h1
    · exact (List.getElem?_eq_some_iff.mp h1).1
  | exc a c d ex => exact ⟨h.1, h.2.mono e.hf⟩
theorem Slots.mono (e : Ext p p') {σ : St} {σd : SS} (h : Slots K p σd σ) : Slots K p' σd σ := ⟨h.1, fun i d q => by
  obtain ⟨v, h1, h2⟩ := h.2 i d q
  exact ⟨v, h1, h2.mono e⟩⟩
theorem Slots.set {σ : St} {σd : SS} (h : Slots K p σd σ) {i : Nat} {d : P} {v : V} (r : RP K p d v) : Slots K p (σd.set i (some d)) (σ.set i (some v)) := by
  refine ⟨by simp [h.1], fun j d' q => ?_⟩
  by_cases e : i = j
  · subst e
    by_cases hl : i < σd.length
    · rw [List.getElem?_set_self hl] at q
      cases q
      exact ⟨v, List.getElem?_set_self (by rw [← h.1]; exact hl), r⟩
    · rw [List.getElem?_eq_none (by simpa using hl)] at q
      cases q
  · rw [List.getElem?_set_ne e] at q ⊢
    exact h.2 j d' q
theorem Slots.setNone {σ : St} {σd : SS} (h : Slots K p σd σ) {i : Nat} : Slots K p (σd.set i none) (σ.set i none) := by
  refine ⟨by simp [h.1], fun j d' q => ?_⟩
  by_cases e : i = j
  · subst e
    by_cases hl : i < σd.length
    · rw [List.getElem?_set_self hl] at q
      cases q
    · rw [List.getElem?_eq_none (by simpa using hl)] at q
      cases q
  · rw [List.getElem?_set_ne e] at q ⊢
    exact h.2 j d' q

/-- a new thing that never changes -/
abbrev Pt.frz (p : Pt) (a : Addr) (o : HO) : Pt := ⟨upd p.H a o, p.rho, fun b => p.F b ∨ b = a⟩
/-- a new cell -/
abbrev Pt.new (p : Pt) (a : Addr) (o : HO) : Pt := ⟨upd p.H a o, p.rho ++ [a], p.F⟩
/-- a cell written -/
abbrev Pt.put (p : Pt) (a : Addr) (o : HO) : Pt := ⟨upd p.H a o, p.rho, p.F⟩
/-- a cell that will not change any more -/
abbrev Pt.ice (p : Pt) (a : Addr) : Pt := ⟨p.H, p.rho, fun b => p.F b ∨ b = a⟩
theorem upd_some {H : Hp} {b : Addr} {o u : HO} (h : H b = some u) : ∃ z, upd H a o b = some z := by
  by_cases e : b = a
  · exact ⟨o, by rw [e, upd_same]⟩
  · exact ⟨u, by rw [upd_ne e]; exact h⟩
theorem WF.nrho (w : WF p) (h : p.H a = none) : a ∉ p.rho := fun m => by
  obtain ⟨o, z⟩ := w.hs a m
  rw [h] at z; cases z
theorem WF.nF (w : WF p) (h : p.H a = none) : ¬ p.F a := fun m => by
  obtain ⟨o, z⟩ := w.fs a m
  rw [h] at z; cases z
theorem ext_frz {o : HO} (h : p.H a = none) : Ext p (p.frz a o) := by
  refine ⟨⟨[], by simp⟩, fun _ z => .inl z, fun _ z => .inl z, fun b z => ?_, fun b u z _ => ?_, fun b u z _ => ?_, fun b u z => upd_some z⟩
  · rcases z with z | z
    · exact .inl z
    · exact .inr (.inl (by rw [z]; exact h))
  · show upd _ _ _ _ = _
    rw [upd_ne (ne_of_none z h)]; exact z
  · show upd _ _ _ _ = _
    rw [upd_ne (ne_of_none z h)]; exact z
theorem wf_frz {o : HO} (w : WF p) : WF (p.frz a o) := by
  refine ⟨w.nd, fun b m => ?_, fun b m => ?_⟩
  · obtain ⟨u, z⟩ := w.hs b m
    exact upd_some z
  · rcases m with m | m
    · obtain ⟨u, z⟩ := w.fs b m
      exact upd_some z
    · exact ⟨o, by show upd _ _ _ _ = _; rw [m, upd_same]⟩
theorem ext_new {o : HO} (h : p.H a = none) : Ext p (p.new a o) := by
  refine ⟨⟨[a], rfl⟩, fun b z => ?_, fun _ z => z, fun b z => .inl z, fun b u z _ => ?_, fun b u z _ => ?_, fun b u z => upd_some z⟩
  · rcases List.mem_append.mp z with z | z
    · exact .inl z
    · simp at z
      exact .inr (by rw [z]; exact h)
  · show upd _ _ _ _ = _
    rw [upd_ne (ne_of_none z h)]; exact z
  · show upd _ _ _ _ = _
    rw [upd_ne (ne_of_none z h)]; exact z
theorem wf_new {o : HO} (w : WF p) (h : p.H a = none) : WF (p.new a o) := by
  refine ⟨?_, fun b m => ?_, fun b m => ?_⟩
  · show (p.rho ++ [a]).Nodup
    rw [List.nodup_append]
    refine ⟨w.nd, by simp, fun x hx y hy e => ?_⟩
    simp at hy
    subst hy; subst e
    exact w.nrho h hx
  · rcases List.mem_append.mp m with m | m
    · obtain ⟨u, z⟩ := w.hs b m
      exact upd_some z
    · simp at m
      exact ⟨o, by show upd _ _ _ _ = _; rw [m, upd_same]⟩
  · obtain ⟨u, z⟩ := w.fs b m
    exact upd_some z
theorem ext_put {o : HO} (hr : a ∈ p.rho) (hf : ¬ p.F a) : Ext p (p.put a o) := by
  refine ⟨⟨[], by simp⟩, fun _ z => .inl z, fun _ z => z, fun b z => .inl z, fun b u z n => ?_, fun b u z n => ?_, fun b u z => upd_some z⟩
  · show upd _ _ _ _ = _
    rw [upd_ne (fun e => n (by rw [e]; exact hr))]; exact z
  · show upd _ _ _ _ = _
    rw [upd_ne (fun e => hf (by rw [← e]; exact n))]; exact z
theorem wf_put {o : HO} (w : WF p) : WF (p.put a o) := by
  refine ⟨w.nd, fun b m => ?_, fun b m => ?_⟩
  · obtain ⟨u, z⟩ := w.hs b m
    exact upd_some z
  · obtain ⟨u, z⟩ := w.fs b m
    exact upd_some z
theorem ext_ice (hr : a ∈ p.rho) : Ext p (p.ice a) := by
  refine ⟨⟨[], by simp⟩, fun _ z => .inl z, fun _ z => .inl z, fun b z => ?_, fun b u z n => z, fun b u z n => z, fun b u z => ⟨u, z⟩⟩
  rcases z with z | z
  · exact .inl z
  · exact .inr (.inr (by rw [z]; exact hr))
theorem wf_ice (w : WF p) (hr : a ∈ p.rho) : WF (p.ice a) := by
  refine ⟨w.nd, w.hs, fun b m => ?_⟩
  rcases m with m | m
  · exact w.fs b m
  · rw [m]; exact w.hs a hr
theorem CellOk.mono {c : Cell} {b : Addr} (e : Ext p p') (h : CellOk K p c b) (k : p'.H b = p.H b) (kf : p'.F b → p.F b) : CellOk K p' c b := by
  cases c with
  | lst xs =>
    obtain ⟨nf, vs, h1, h2⟩ := h
    exact ⟨fun z => nf (kf z), vs, by rw [k]; exact h1, h2.mono e.hf⟩
  | frz xs =>
    obtain ⟨vs, h1, h2⟩ := h
    exact ⟨vs, h1.mono e.hf, h2.mono e.hf⟩
  | dk xs =>
    obtain ⟨nf, vs, h1, h2⟩ := h
    exact ⟨fun z => nf (kf z), vs, by rw [k]; exact h1, h2.mono e.hf⟩
  | dt xs =>
    obtain ⟨nf, vs, h1, h2⟩ := h
    exact ⟨fun z => nf (kf z), vs, by rw [k]; exact h1, h2.mono e.hf⟩
  | fz x => exact RD.mono e.hf h
theorem CellOk.hf {c : Cell} {b : Addr} (h : CellOk K p c b) (e : HF p p') (k : p'.H b = p.H b) (kf : p'.F b → p.F b) : CellOk K p' c b := by
  cases c with
  | lst xs =>
    obtain ⟨nf, vs, h1, h2⟩ := h
    exact ⟨fun z => nf (kf z), vs, by rw [k]; exact h1, h2.mono e⟩
  | frz xs =>
    obtain ⟨vs, h1, h2⟩ := h
    exact ⟨vs, h1.mono e, h2.mono e⟩
  | dk xs =>
    obtain ⟨nf, vs, h1, h2⟩ := h
    exact ⟨fun z => nf (kf z), vs, by rw [k]; exact h1, h2.mono e⟩
  | dt xs =>
    obtain ⟨nf, vs, h1, h2⟩ := h
    exact ⟨fun z => nf (kf z), vs, by rw [k]; exact h1, h2.mono e⟩
  | fz x => exact RD.mono e h
theorem Cells.get {l : LS} {i : Nat} {c : Cell} (h : Cells K p l) (e : l[i]? = some c) : ∃ a, p.rho[i]? = some a ∧ CellOk K p c a := h.2 i c e
theorem Cells.frz {l : LS} {o : HO} (w : WF p) (ce : Cells K p l) (h : p.H a = none) : Cells K (p.frz a o) l := by
  refine ⟨ce.1, fun i c e => ?_⟩
  obtain ⟨b, h1, h2⟩ := ce.2 i c e
  have nb : b ≠ a := fun z => w.nrho h (by rw [← z]; exact List.mem_of_getElem? h1)
  refine ⟨b, h1, h2.mono (ext_frz h) (by show upd _ _ _ _ = _; rw [upd_ne nb]) fun z => ?_⟩
  rcases z with z | z
  · exact z
  · exact absurd z nb
theorem Cells.new {l : LS} {o : HO} {c : Cell} (w : WF p) (ce : Cells K p l) (h : p.H a = none) (hc : CellOk K (p.new a o) c a) : Cells K (p.new a o) (l ++ [c]) := by
  refine ⟨by simp [ce.1], fun i d e => ?_⟩
  by_cases hi : i < l.length
  · rw [List.getElem?_append_left hi] at e
    obtain ⟨b, h1, h2⟩ := ce.2 i d e
    have nb : b ≠ a := fun z => w.nrho h (by rw [← z]; exact List.mem_of_getElem? h1)
    refine ⟨b, ?_, h2.mono (ext_new h) (by show upd _ _ _ _ = _; rw [upd_ne nb]) fun z => z⟩
    show (p.rho ++ [a])[i]? = _
    rw [List.getElem?_append_left (by rw [← ce.1]; exact hi)]
    exact h1
  · have hi' : i = l.length := by
      have := (List.getElem?_eq_some_iff.mp e).1
      simp at this
      omega
    subst hi'
    rw [List.getElem?_append_right (Nat.le_refl _)] at e
    simp at e
    subst e
    refine ⟨a, ?_, hc⟩
    show (p.rho ++ [a])[l.length]? = _
    rw [ce.1, List.getElem?_append_right (Nat.le_refl _)]
    simp
theorem nodup_at {xs : List Addr} (nd : xs.Nodup) {i j : Nat} {a : Addr} (h : xs[i]? = some a) (h' : xs[j]? = some a) : i = j := by
  obtain ⟨h1, e1⟩ := List.getElem?_eq_some_iff.mp h
  obtain ⟨h2, e2⟩ := List.getElem?_eq_some_iff.mp h'
  exact (List.getElem_inj nd).mp (e1.trans e2.symm)
theorem Cells.put {l : LS} {o : HO} {c : Cell} {i : Nat} (w : WF p) (ce : Cells K p l) (hi : p.rho[i]? = some a) (nf : ¬ p.F a) (hc : CellOk K (p.put a o) c a) : Cells K (p.put a o) (l.set i c) := by
  refine ⟨by simp [ce.1], fun j d e => ?_⟩
  by_cases hj : i = j
  · subst hj
    have hl : i < l.length := by
      have := (List.getElem?_eq_some_iff.mp e).1
      simpa using this
    rw [List.getElem?_set_self hl] at e
    cases e
    exact ⟨a, hi, hc⟩
  · rw [List.getElem?_set_ne hj] at e
    obtain ⟨b, h1, h2⟩ := ce.2 j d e
    have nb : b ≠ a := fun z => hj (nodup_at w.nd hi (by rw [← z]; exact h1))
    exact ⟨b, h1, h2.mono (ext_put (List.mem_of_getElem? hi) nf) (by show upd _ _ _ _ = _; rw [upd_ne nb]) fun z => z⟩
theorem Cells.iceD {l : LS} {c : Cell} {x : D} {i : Nat} (w : WF p) (ce : Cells K p l) (hi : p.rho[i]? = some a) (_ : l[i]? = some c) (hx : RD K (p.ice a) x (.ref a)) : Cells K (p.ice a) (l.set i (.fz x)) := by
  have hr := List.mem_of_getElem? hi
  have ex := ext_ice hr
  refine ⟨by simp [ce.1], fun j d e' => ?_⟩
  by_cases hj : i = j
  · subst hj
    have hl : i < l.length := (List.getElem?_eq_some_iff.mp ‹l[i]? = some c›).1
    rw [List.getElem?_set_self hl] at e'
    cases e'
    exact ⟨a, hi, hx⟩
  · rw [List.getElem?_set_ne hj] at e'
    obtain ⟨b, h1, h2⟩ := ce.2 j d e'
    have nb : b ≠ a := fun z => hj (nodup_at w.nd hi (by rw [← z]; exact h1))
    refine ⟨b, h1, h2.mono ex rfl fun z => ?_⟩
    rcases z with z | z
    · exact z
    · exact absurd z nb
theorem Cells.ice {l : LS} {xs : List D} {i : Nat} (w : WF p) (ce : Cells K p l) (hi : p.rho[i]? = some a) (e : l[i]? = some (.lst xs)) : Cells K (p.ice a) (l.set i (.frz xs)) ∧ RD K (p.ice a) (.lst xs) (.ref a) := by
  have hr := List.mem_of_getElem? hi
  have ex := ext_ice hr
  obtain ⟨b, h1, nf, vs, h2, h3⟩ := ce.2 i _ e
  rw [hi] at h1
  cases h1
  have la : LstAt (p.ice a) a vs := ⟨.inr rfl, h2⟩
  refine ⟨⟨by simp [ce.1], fun j d e' => ?_⟩, .lst la (h3.mono ex.hf)⟩
  by_cases hj : i = j
  · subst hj
    have hl : i < l.length := (List.getElem?_eq_some_iff.mp e).1
    rw [List.getElem?_set_self hl] at e'
    cases e'
    exact ⟨a, hi, vs, la, h3.mono ex.hf⟩
  · rw [List.getElem?_set_ne hj] at e'
    obtain ⟨b, h1, h2⟩ := ce.2 j d e'
    have nb : b ≠ a := fun z => hj (nodup_at w.nd hi (by rw [← z]; exact h1))
    refine ⟨b, h1, h2.mono ex rfl fun z => ?_⟩
    rcases z with z | z
    · exact z
    · exact absurd z nb
end
end QL
set_option Elab.async false
set_option linter.all false
set_option maxRecDepth 100000
set_option maxHeartbeats 4000000
/-! QL2: the judgements over plain data, names, constants, operators, tests, blocks. -/
namespace QL
open PySem L2

abbrev EK := Ex → LS → Prop
abbrev WE := SS → LS → (P → LS → Prop) → EK → Prop
abbrev WT := SS → LS → (Bool → LS → Prop) → EK → Prop
abbrev WA := SS → LS → (List P → LS → Prop) → EK → Prop
structure ED where
  nx : SS → LS → Prop
  rt : P → LS → Prop
  bk : SS → LS → Prop
  ct : SS → LS → Prop
  ex : Ex → SS → LS → Prop
abbrev WS := ED → SS → LS → Prop
abbrev WG := P → SS → LS → (SS → LS → Prop) → Prop
abbrev WGs := List D → SS → LS → (SS → LS → Prop) → Prop

section
variable (K : PySem.W.Frag) (W : WX)
def LinkE (p : Pt) (σ : St) (σd : SS) (E : EK) : Prop := ∀ ex l' cls d p', Ext p p' → Rel K p' σ σd l' → XR K p' ex cls d → E ex l' → W cls d σ p'.H
def cE (w : WE) : TE := fun σ H Q => ∃ (p : Pt) (σd : SS) (l : LS) (Qd : P → LS → Prop) (Ed : EK), p.H = H ∧ Rel K p σ σd l ∧ w σd l Qd Ed ∧
  (∀ d l' v p', Ext p p' → Rel K p' σ σd l' → RP K p' d v → Qd d l' → Q v p'.H) ∧ LinkE K W p σ σd Ed
def cT (w : WT) : TT := fun σ H Q => ∃ (p : Pt) (σd : SS) (l : LS) (Qd : Bool → LS → Prop) (Ed : EK), p.H = H ∧ Rel K p σ σd l ∧ w σd l Qd Ed ∧
  (∀ b l' p', Ext p p' → Rel K p' σ σd l' → Qd b l' → Q b p'.H) ∧ LinkE K W p σ σd Ed
def RPs (p : Pt) : List P → List V → Prop := Paired (RP K p)
def cA (w : WA) : TA := fun σ H Q => ∃ (p : Pt) (σd : SS) (l : LS) (Qd : List P → LS → Prop) (Ed : EK), p.H = H ∧ Rel K p σ σd l ∧ w σd l Qd Ed ∧
  (∀ ds l' vs p', Ext p p' → Rel K p' σ σd l' → RPs K p' ds vs → Qd ds l' → Q vs p'.H) ∧ LinkE K W p σ σd Ed
structure EndsR (p : Pt) (D : Ends) (Dd : ED) : Prop where
  nx : ∀ p' σ' σd' l', Ext p p' → Rel K p' σ' σd' l' → Dd.nx σd' l' → D.nx σ' p'.H
  bk : ∀ p' σ' σd' l', Ext p p' → Rel K p' σ' σd' l' → Dd.bk σd' l' → D.bk σ' p'.H
  ct : ∀ p' σ' σd' l', Ext p p' → Rel K p' σ' σd' l' → Dd.ct σd' l' → D.ct σ' p'.H
  rt : ∀ p' d v l', Ext p p' → WF p' → Cells K p' l' → RP K p' d v → Dd.rt d l' → D.rt v p'.H
  ex : ∀ p' σ' σd' l' ex cls dd, Ext p p' → Rel K p' σ' σd' l' → XR K p' ex cls dd → Dd.ex ex σd' l' → W cls dd σ' p'.H
def cS (w : WS) : TS := fun D σ H => ∃ (p : Pt) (σd : SS) (l : LS) (Dd : ED), p.H = H ∧ Rel K p σ σd l ∧ w Dd σd l ∧ EndsR K W p D Dd
def cG (w : WG) : TG := fun v σ H Q => ∃ (p : Pt) (σd : SS) (l : LS) (d : P) (Qd : SS → LS → Prop), p.H = H ∧ Rel K p σ σd l ∧ RP K p d v ∧ w d σd l Qd ∧
  (∀ p' σ' σd' l', Ext p p' → Rel K p' σ' σd' l' → Qd σd' l' → Q σ' p'.H)
def cGs (w : WGs) : TGs := fun vs σ H Q => ∃ (p : Pt) (σd : SS) (l : LS) (ds : List D) (Qd : SS → LS → Prop), p.H = H ∧ Rel K p σ σd l ∧ RDs K p ds vs ∧ w ds σd l Qd ∧
  (∀ p' σ' σd' l', Ext p p' → Rel K p' σ' σd' l' → Qd σd' l' → Q σ' p'.H)
end
def QE (X : Cx) (W : WX) (e : Expr) (w : WE) : Prop := PE X e (cE X.K W w)
def QT (X : Cx) (W : WX) (e : Expr) (w : WT) : Prop := PT X e (cT X.K W w)
def QW (X : Cx) (W : WX) (e : Expr) (w : WT) : Prop := PW X e (cT X.K W w)
def QA (X : Cx) (W : WX) (es : List Expr) (w : WA) : Prop := PA X es (cA X.K W w)
def QS (X : Cx) (W : WX) (st : Stmt) (w : WS) : Prop := PS X st (cS X.K W w)
def QSs (X : Cx) (W : WX) (st : List Stmt) (w : WS) : Prop := PSs X st (cS X.K W w)
def QG (X : Cx) (tg : Expr) (w : WG) : Prop := PG X tg (cG X.K w)
def QGs (X : Cx) (ts : List Expr) (w : WGs) : Prop := PGs X ts (cGs X.K w)

theorem PE.imp {X : Cx} {e : Expr} {t t' : TE} (h : PE X e t) (k : ∀ σ H Q, t' σ H Q → t σ H Q) : PE X e t' := ⟨fun pins s σ H Q I q => h.run pins s σ H Q I (k σ H Q q)⟩
theorem PT.imp {X : Cx} {e : Expr} {t t' : TT} (h : PT X e t) (k : ∀ σ H Q, t' σ H Q → t σ H Q) : PT X e t' := ⟨fun pins s σ H Q I q => h.run pins s σ H Q I (k σ H Q q)⟩
theorem PW.imp {X : Cx} {e : Expr} {t t' : TT} (h : PW X e t) (k : ∀ σ H Q, t' σ H Q → t σ H Q) : PW X e t' := ⟨fun wh pins s σ H Q I q => h.run wh pins s σ H Q I (k σ H Q q)⟩
theorem PA.imp {X : Cx} {e : List Expr} {t t' : TA} (h : PA X e t) (k : ∀ σ H Q, t' σ H Q → t σ H Q) : PA X e t' := ⟨fun pos pins s σ H Q I q => h.run pos pins s σ H Q I (k σ H Q q)⟩
theorem PS.imp {X : Cx} {e : Stmt} {t t' : TS} (h : PS X e t) (k : ∀ D σ H, t' D σ H → t D σ H) : PS X e t' := ⟨fun pins s σ H D I q => h.run pins s σ H D I (k D σ H q)⟩
theorem PSs.imp {X : Cx} {e : List Stmt} {t t' : TS} (h : PSs X e t) (k : ∀ D σ H, t' D σ H → t D σ H) : PSs X e t' := ⟨fun pins s σ H D I q => h.run pins s σ H D I (k D σ H q)⟩
theorem PG.imp {X : Cx} {e : Expr} {t t' : TG} (h : PG X e t) (k : ∀ v σ H Q, t' v σ H Q → t v σ H Q) : PG X e t' := ⟨fun pins s σ H v u Q I r q => h.run pins s σ H v u Q I r (k v σ H Q q)⟩
theorem PGs.imp {X : Cx} {e : List Expr} {t t' : TGs} (h : PGs X e t) (k : ∀ v σ H Q, t' v σ H Q → t v σ H Q) : PGs X e t' := ⟨fun pins s σ H v u Q I r q => h.run pins s σ H v u Q I r (k v σ H Q q)⟩

section
variable {K : PySem.W.Frag} {W : WX} {p p' : Pt} {σ σ' : St} {σd σd' : SS} {l l' : LS} {H : Hp}
theorem LinkE.mono {E : EK} (h : LinkE K W p σ σd E) (e : Ext p p') : LinkE K W p' σ σd E := fun ex l' cls d p2 e2 r x q => h ex l' cls d p2 (e.trans e2) r x q
theorem EndsR.mono {D : Ends} {Dd : ED} (h : EndsR K W p D Dd) (e : Ext p p') : EndsR K W p' D Dd :=
  ⟨fun p2 a b c f => h.nx p2 a b c (e.trans f), fun p2 a b c f => h.bk p2 a b c (e.trans f), fun p2 a b c f => h.ct p2 a b c (e.trans f), fun p2 a b c f => h.rt p2 a b c (e.trans f), fun p2 a b c d f g x => h.ex p2 a b c d f g (e.trans x)⟩
theorem cE_ok {w : WE} {Q : VK} {Qd : P → LS → Prop} {Ed : EK} (R : Rel K p σ σd l) (hw : w σd l Qd Ed) (lk : LinkE K W p σ σd Ed)
    (k : ∀ d l' v p', Ext p p' → Rel K p' σ σd l' → RP K p' d v → Qd d l' → Q v p'.H) : cE K W w σ p.H Q := ⟨p, σd, l, Qd, Ed, rfl, R, hw, k, lk⟩
theorem cT_ok {w : WT} {Q : Bool → Hp → Prop} {Qd : Bool → LS → Prop} {Ed : EK} (R : Rel K p σ σd l) (hw : w σd l Qd Ed) (lk : LinkE K W p σ σd Ed)
    (k : ∀ b l' p', Ext p p' → Rel K p' σ σd l' → Qd b l' → Q b p'.H) : cT K W w σ p.H Q := ⟨p, σd, l, Qd, Ed, rfl, R, hw, k, lk⟩
theorem cA_ok {w : WA} {Q : List V → Hp → Prop} {Qd : List P → LS → Prop} {Ed : EK} (R : Rel K p σ σd l) (hw : w σd l Qd Ed) (lk : LinkE K W p σ σd Ed)
    (k : ∀ ds l' vs p', Ext p p' → Rel K p' σ σd l' → RPs K p' ds vs → Qd ds l' → Q vs p'.H) : cA K W w σ p.H Q := ⟨p, σd, l, Qd, Ed, rfl, R, hw, k, lk⟩
theorem cS_ok {w : WS} {D : Ends} {Dd : ED} (R : Rel K p σ σd l) (hw : w Dd σd l) (k : EndsR K W p D Dd) : cS K W w D σ p.H := ⟨p, σd, l, Dd, rfl, R, hw, k⟩
theorem cG_ok {w : WG} {d : P} {v : V} {Q : St → Hp → Prop} {Qd : SS → LS → Prop} (R : Rel K p σ σd l) (r : RP K p d v) (hw : w d σd l Qd)
    (k : ∀ p' σ' σd' l', Ext p p' → Rel K p' σ' σd' l' → Qd σd' l' → Q σ' p'.H) : cG K w v σ p.H Q := ⟨p, σd, l, d, Qd, rfl, R, r, hw, k⟩
theorem Rel.ext (R : Rel K p σ σd l) (e : Ext p p') (w : WF p') (c : Cells K p' l') : Rel K p' σ σd l' := ⟨w, R.sl.mono e, c⟩
theorem Rel.set (R : Rel K p σ σd l) {i : Nat} {d : P} {v : V} (r : RP K p d v) : Rel K p (σ.set i (some v)) (σd.set i (some d)) l := ⟨R.wf, R.sl.set r, R.ce⟩
theorem EndsR.link {D : Ends} {Dd : ED} (h : EndsR K W p D Dd) : LinkE K W p σ σd (fun ex l => Dd.ex ex σd l) := fun ex l' cls d p' e r x q => h.ex p' σ σd l' ex cls d e r x q

/-! ### what stands in a sequence -/
def seqOf (l : LS) : P → Option (List D)
  | .d (.tup xs) => some xs
  | .d (.lst xs) => some xs
  | .d (.scr xs) => some xs
  | .d (.ktu xs) => some xs
  | .loc n => match l[n]? with
    | some (.lst xs) => some xs
    | some (.frz xs) => some xs
    | _ => none
  | _ => none
theorem seqOf_ok {x : P} {v : V} {xs : List D} (ce : Cells K p l) (r : RP K p x v) (h : seqOf l x = some xs) : ∃ a vs, v = .ref a ∧ (SqL K p.H a vs ∨ SqT K p.H a vs) ∧ RDs K p xs vs := by
  cases x with
  | d x =>
    cases x with
    | tup ys =>
      cases h
      cases r with
      | tup h1 h2 => exact ⟨_, _, rfl, .inr h1.sq, h2⟩
    | lst ys =>
      cases h
      cases r with
      | lst h1 h2 => exact ⟨_, _, rfl, .inl (LstAt.sq (K := K) h1), h2⟩
    | scr ys =>
      cases h
      cases r with
      | scr h1 h2 => exact ⟨_, _, rfl, .inl h1.sq, h2⟩
    | non => cases h
    | bl _ => cases h
    | int _ => cases h
    | str _ => cases h
    | ty _ => cases h
    | obj _ _ _ => cases h
    | dk _ _ => cases h
    | dt _ _ => cases h
    | ktu ys =>
      cases h
      cases r with
      | ktu h1 h2 => exact ⟨_, _, rfl, .inr (seqT_empty h1), h2⟩
  | loc n =>
    obtain ⟨a, h1, rfl⟩ := r
    cases e : l[n]? with
    | none => simp [seqOf, e] at h
    | some c =>
      obtain ⟨b, h2, h3⟩ := ce.2 n c e
      rw [h1] at h2
      cases h2
      cases c with
      | lst ys =>
        simp [seqOf, e] at h
        subst h
        obtain ⟨_, vs, h4, h5⟩ := h3
        exact ⟨a, vs, rfl, .inl (.inl (.inl h4)), h5⟩
      | frz ys =>
        simp [seqOf, e] at h
        subst h
        obtain ⟨vs, h4, h5⟩ := h3
        exact ⟨a, vs, rfl, .inl (LstAt.sq (K := K) h4), h5⟩
      | dk _ => simp [seqOf, e] at h
      | dt _ => simp [seqOf, e] at h
      | fz _ => simp [seqOf, e] at h
  | exc _ _ _ _ => cases h
/-- a list, not a tuple; its object itself stands in the heap -/
def lstOf (l : LS) : P → Option (List D)
  | .d (.lst xs) => some xs
  | .loc n => match l[n]? with
    | some (.lst xs) => some xs
    | some (.frz xs) => some xs
    | _ => none
  | _ => none
theorem lstOf_ok {x : P} {v : V} {xs : List D} (ce : Cells K p l) (r : RP K p x v) (h : lstOf l x = some xs) : ∃ a vs, v = .ref a ∧ p.H a = some (.lst vs) ∧ RDs K p xs vs := by
  cases x with
  | d x =>
    cases x with
    | lst ys =>
      cases h
      cases r with
      | lst h1 h2 => exact ⟨_, _, rfl, h1.2, h2⟩
    | tup _ => cases h
    | scr _ => cases h
    | non => cases h
    | bl _ => cases h
    | int _ => cases h
    | str _ => cases h
    | ty _ => cases h
    | obj _ _ _ => cases h
    | dk _ _ => cases h
    | dt _ _ => cases h
    | ktu _ => cases h
  | loc n =>
    obtain ⟨a, h1, rfl⟩ := r
    cases e : l[n]? with
    | none => simp [lstOf, e] at h
    | some c =>
      obtain ⟨b, h2, h3⟩ := ce.2 n c e
      rw [h1] at h2
      cases h2
      cases c with
      | lst ys =>
        simp [lstOf, e] at h
        subst h
        obtain ⟨_, vs, h4, h5⟩ := h3
        exact ⟨a, vs, rfl, h4, h5⟩
      | frz ys =>
        simp [lstOf, e] at h
        subst h
        obtain ⟨vs, h4, h5⟩ := h3
        exact ⟨a, vs, rfl, h4.2, h5⟩
      | dk _ => simp [lstOf, e] at h
      | dt _ => simp [lstOf, e] at h
      | fz _ => simp [lstOf, e] at h
  | exc _ _ _ _ => cases h
theorem lst_seq {x : P} {xs : List D} (h : lstOf l x = some xs) : seqOf l x = some xs := by
  cases x with
  | d x => cases x <;> first | (cases h; rfl) | cases h
  | loc n => exact h
  | exc _ _ _ _ => cases h
end

/-! ### operators by values -/
abbrev OD2 := P → P → LS → (P → LS → Prop) → Prop
abbrev OD1 := P → LS → (P → LS → Prop) → Prop
abbrev ODn := List P → LS → (P → LS → Prop) → Prop
abbrev ODm := P → List P → LS → (P → LS → Prop) → Prop
section
variable (K : PySem.W.Frag)
/-- what is wanted behind an operation at p -/
def After (p : Pt) (Qd : P → LS → Prop) (Q : VK) : Prop := ∀ d l' v p', Ext p p' → WF p' → Cells K p' l' → RP K p' d v → Qd d l' → Q v p'.H
def RefOp (r : R2) (rd : OD2) : Prop := ∀ (p : Pt) (l : LS) (x y : P) (vx vy : V) (Qd : P → LS → Prop) (Q : VK), WF p → Cells K p l → RP K p x vx → RP K p y vy → rd x y l Qd → After K p Qd Q → r vx vy p.H Q
def RefUn (r : V → Hp → VK → Prop) (rd : OD1) : Prop := ∀ (p : Pt) (l : LS) (x : P) (vx : V) (Qd : P → LS → Prop) (Q : VK), WF p → Cells K p l → RP K p x vx → rd x l Qd → After K p Qd Q → r vx p.H Q
def RefCall (r : List V → Hp → VK → Prop) (rd : ODn) : Prop := ∀ (p : Pt) (l : LS) (xs : List P) (vs : List V) (Qd : P → LS → Prop) (Q : VK), WF p → Cells K p l → RPs K p xs vs → rd xs l Qd → After K p Qd Q → r vs p.H Q
end
theorem After.same {K : PySem.W.Frag} {p : Pt} {Qd : P → LS → Prop} {Q : VK} (k : After K p Qd Q) (w : WF p) {l : LS} (c : Cells K p l) {d : P} {v : V} (r : RP K p d v) (q : Qd d l) : Q v p.H := k d l v p (Ext.refl p) w c r q

section
variable {X : Cx} {W : WX} {a b c e o : Expr} {es : List Expr} {wa wb wc we : WE} {wt wt' : WT} {ws : WA} {pos : Pos}
/-! ### names, constants -/
def wVar (i : Nat) (σ : SS) (l : LS) (Q : P → LS → Prop) (_ : EK) : Prop := match σ[i]? with
  | some (some d) => Q d l
  | _ => False
def wC (d : D) (_ : SS) (l : LS) (Q : P → LS → Prop) (_ : EK) : Prop := Q (.d d) l
theorem qe_var (i : Nat) {x : Str} (hN : X.N[i]? = some x := by rfl) (hv : Vis X.env.scope x := by first | exact Or.inl rfl | exact Or.inr (Or.inl rfl) | exact Or.inr (Or.inr rfl)) (hd : (x == ("__debug__" : Str)) = false := by decide)
    (hcd : (x == ("__classdict__" : Str)) = false := by decide) : QE X W (.Name x pos) (wVar i) := PE.imp (pe_var hN hv hd hcd) fun σ H Q ⟨p, σd, l, Qd, Ed, hH, R, hw, k, _⟩ => by
  subst hH
  unfold wVar at hw
  split at hw
  · rename_i d hd
    obtain ⟨v, h1, h2⟩ := R.sl.2 i d hd
    exact ⟨v, h1, k d l v p (Ext.refl p) R h2 hw⟩
  · exact hw.elim
theorem qe_const {v : V} {d : D} (h : PE X e (tC v)) (r : ∀ p, RD X.K p d v) : QE X W e (wC d) := PE.imp h fun σ H Q ⟨p, σd, l, Qd, Ed, hH, R, hw, k, _⟩ => by
  subst hH
  exact k (.d d) l v p (Ext.refl p) R (r p) hw
theorem qe_int {i j} : QE X W (.Constant (.int i) j pos) (wC (.int i)) := qe_const pe_int fun _ => .int i
theorem qe_bl {i j} : QE X W (.Constant (.bool i) j pos) (wC (.bl i)) := qe_const pe_bl fun _ => .bl i
theorem qe_non {j} : QE X W (.Constant .none j pos) (wC .non) := qe_const pe_non fun _ => .non
theorem qe_str {i j} : QE X W (.Constant (.str i) j pos) (wC (.str i)) := qe_const pe_str fun _ => .str i
/-- a constant of the module -/
theorem qe_glob {x : Str} {v : V} {d : D} (hg : Gl X x) (hm : ∃ u, X.mg x = some u ∧ RelV v u) (r : ∀ p, RD X.K p d v) (hd : (x == ("__debug__" : Str)) = false := by decide) : QE X W (.Name x pos) (wC d) := by
  obtain ⟨u, h1, h2⟩ := hm
  exact qe_const (pe_glob hg h1 h2 hd) r
/-- a built-in type as a value -/
theorem qe_type {x : Str} {n : String} (hg : Gl X x) (hm : X.mg x = none) (hv : bootBuiltins x = some (.type n)) (hn : x ≠ "__name__" := by decide) (hd : (x == ("__debug__" : Str)) = false := by decide) : QE X W (.Name x pos) (wC (.ty n)) :=
  qe_const (pe_bltn (v := .ty n) hg hm hv rfl hn hd) fun _ => .ty n

/-! ### operators -/
def kOp2 (rd : OD2) (x : P) (Q : P → LS → Prop) (y : P) (l : LS) : Prop := rd x y l Q
def kOp1 (rd : OD2) (wb : WE) (σ : SS) (Q : P → LS → Prop) (E : EK) (x : P) (l : LS) : Prop := wb σ l (kOp2 rd x Q) E
def wOp (rd : OD2) (wa wb : WE) (σ : SS) (l : LS) (Q : P → LS → Prop) (E : EK) : Prop := wa σ l (kOp1 rd wb σ Q E) E
def kUn (rd : OD1) (Q : P → LS → Prop) (x : P) (l : LS) : Prop := rd x l Q
def wUn (rd : OD1) (wa : WE) (σ : SS) (l : LS) (Q : P → LS → Prop) (E : EK) : Prop := wa σ l (kUn rd Q) E
theorem op_ok {r : R2} {rd : OD2} (hr : RefOp X.K r rd) {σ : St} {H : Hp} {Q : VK} (h : cE X.K W (wOp rd wa wb) σ H Q) : tOp r (cE X.K W wa) (cE X.K W wb) σ H Q := by
  obtain ⟨p, σd, l, Qd, Ed, hH, R, hw, k, lk⟩ := h
  subst hH
  exact cE_ok R hw lk fun x l1 vx p1 e1 R1 r1 q1 => cE_ok R1 q1 (lk.mono e1) fun y l2 vy p2 e2 R2 r2 q2 =>
    hr p2 l2 x y vx vy _ _ R2.wf R2.ce (r1.mono e2) r2 q2 fun d l' v p' e' w' c' r' q' => k d l' v p' ((e1.trans e2).trans e') (R2.ext e' w' c') r' q'
theorem qe_op {op : Operator} {r : R2} {rd : OD2} (ho : OpR X (binaryOp op) r) (hr : RefOp X.K r rd) (ha : QE X W a wa) (hb : QE X W b wb) : QE X W (.BinOp a op b pos) (wOp rd wa wb) :=
  PE.imp (pe_op ho ha hb) fun _ _ _ h => op_ok hr h
theorem qe_cmp {op : CmpOp} {r : R2} {rd : OD2} (ho : OpR X (compareOp op) r) (hr : RefOp X.K r rd) (ha : QE X W a wa) (hb : QE X W b wb) (hm : behindInMarks op b = false) : QE X W (.Compare a [op] [b] pos) (wOp rd wa wb) :=
  PE.imp (pe_cmpR ho ha hb hm) fun _ _ _ h => op_ok hr h
theorem qe_un {op : UnaryOp} {r : V → Hp → VK → Prop} {rd : OD1} (ho : UnR X (unaryOp op) r) (hr : RefUn X.K r rd) (ha : QE X W a wa) : QE X W (.UnaryOp op a pos) (wUn rd wa) :=
  PE.imp (pe_un ho ha) fun σ H Q h => by
    obtain ⟨p, σd, l, Qd, Ed, hH, R, hw, k, lk⟩ := h
    subst hH
    exact cE_ok R hw lk fun x l1 vx p1 e1 R1 r1 q1 => hr p1 l1 x vx _ _ R1.wf R1.ce r1 q1 fun d l' v p' e' w' c' r' q' => k d l' v p' (e1.trans e') (R1.ext e' w' c') r' q'
/-- a test that gives a bool -/
def isB (x : P) (l : LS) (Q : Bool → LS → Prop) : Prop := match x with
  | .d (.bl b) => Q b l
  | _ => False
theorem isB_ok {K : PySem.W.Frag} {p : Pt} {l : LS} {x : P} {v : V} {Q : Bool → LS → Prop} (r : RP K p x v) (h : isB x l Q) : ∃ b, v = .bl b ∧ Q b l := by
  cases x with
  | d x =>
    cases x with
    | bl b => cases r; exact ⟨b, rfl, h⟩
    | _ => cases h
  | loc _ => cases h
  | exc _ _ _ _ => cases h
def kB (Q : Bool → LS → Prop) (x : P) (l : LS) : Prop := isB x l Q
def wB (we : WE) (σ : SS) (l : LS) (Q : Bool → LS → Prop) (E : EK) : Prop := we σ l (kB Q) E
theorem qt_cmp {op : CmpOp} {r : R2} {rd : OD2} (ho : OpR X (compareOp op) r) (hr : RefOp X.K r rd) (ha : QE X W a wa) (hb : QE X W b wb) (hm : behindInMarks op b = false) : QT X W (.Compare a [op] [b] pos) (wB (wOp rd wa wb)) :=
  PT.imp (pt_cmpR ho ha hb hm) fun σ H Q h => by
    obtain ⟨p, σd, l, Qd, Ed, hH, R, hw, k, lk⟩ := h
    subst hH
    exact op_ok (X := X) (W := W) hr (cE_ok R hw lk fun x l1 v p1 e1 R1 r1 q1 => by
      obtain ⟨b, rfl, q⟩ := isB_ok r1 q1
      exact ⟨b, rfl, k b l1 p1 e1 R1 q⟩)
theorem qt_val (h : QE X W e we) (he : ∀ whole, isTrue e X.env whole = (do let v ← whole; standAt e.pos; holding [v] (truthy v)) := by intro _; rfl) : QT X W e (wB we) :=
  PT.imp (pt_val h he) fun σ H Q h => by
    obtain ⟨p, σd, l, Qd, Ed, hH, R, hw, k, lk⟩ := h
    subst hH
    exact cE_ok R hw lk fun x l1 v p1 e1 R1 r1 q1 => by
      obtain ⟨b, rfl, q⟩ := isB_ok r1 q1
      exact ⟨b, rfl, k b l1 p1 e1 R1 q⟩
/-- truth of a value -/
def truD (x : P) (l : LS) (Q : Bool → LS → Prop) : Prop := match seqOf l x with
  | some xs => Q (!xs.isEmpty) l
  | none => match x with
    | .d .non => Q false l
    | .d (.bl b) => Q b l
    | .d (.int i) => Q (i != 0) l
    | .d (.str y) => y.length ≤ sizeLine ∧ Q ((y.length : Int) != 0) l
    | _ => False
theorem RDs.emp {K : PySem.W.Frag} {p : Pt} : ∀ {xs : List D} {vs : List V}, RDs K p xs vs → xs.isEmpty = vs.isEmpty
  | _, _, .nil => rfl
  | _, _, .cons _ _ => rfl
def kTru (Q : Bool → LS → Prop) (x : P) (l : LS) : Prop := truD x l Q
def wTru (we : WE) (σ : SS) (l : LS) (Q : Bool → LS → Prop) (E : EK) : Prop := we σ l (kTru Q) E
theorem qt_truth (h : QE X W e we) (he : ∀ whole, isTrue e X.env whole = (do let v ← whole; standAt e.pos; holding [v] (truthy v)) := by intro _; rfl) : QT X W e (wTru we) :=
  PT.imp (pt_truth h he) fun σ H Q h => by
    obtain ⟨p, σd, l, Qd, Ed, hH, R, hw, k, lk⟩ := h
    subst hH
    exact cE_ok R hw lk fun x l1 v p1 e1 R1 r1 q1 => by
      unfold kTru truD at q1
      split at q1
      · rename_i xs hx
        obtain ⟨a, vs, rfl, hs, hr⟩ := seqOf_ok R1.ce r1 hx
        refine ⟨_, ?_, k _ _ _ e1 R1 q1⟩
        rw [hr.emp]
        rcases hs with hs | hs
        · exact .inl ⟨_, hs, rfl⟩
        · exact .inr (.inl ⟨_, hs, rfl⟩)
      · split at q1
        · cases r1; exact ⟨_, rfl, k _ _ _ e1 R1 q1⟩
        · cases r1; exact ⟨_, rfl, k _ _ _ e1 R1 q1⟩
        · cases r1; exact ⟨_, rfl, k _ _ _ e1 R1 q1⟩
        · cases r1; exact ⟨_, ⟨q1.1, rfl⟩, k _ _ _ e1 R1 q1.2⟩
        · exact q1.elim
def kNot (Q : Bool → LS → Prop) (b : Bool) (l : LS) : Prop := Q (!b) l
def wNot (w : WT) (σ : SS) (l : LS) (Q : Bool → LS → Prop) (E : EK) : Prop := w σ l (kNot Q) E
def kAnd (u : WT) (σ : SS) (Q : Bool → LS → Prop) (E : EK) (b : Bool) (l : LS) : Prop := if b = true then u σ l Q E else Q false l
def wAnd (w u : WT) (σ : SS) (l : LS) (Q : Bool → LS → Prop) (E : EK) : Prop := w σ l (kAnd u σ Q E) E
def kOr (u : WT) (σ : SS) (Q : Bool → LS → Prop) (E : EK) (b : Bool) (l : LS) : Prop := if b = true then Q true l else u σ l Q E
def wOr (w u : WT) (σ : SS) (l : LS) (Q : Bool → LS → Prop) (E : EK) : Prop := w σ l (kOr u σ Q E) E
theorem qt_not (ha : QT X W a wt) : QT X W (.UnaryOp .Not a pos) (wNot wt) := PT.imp (pt_not ha) fun σ H Q h => by
  obtain ⟨p, σd, l, Qd, Ed, hH, R, hw, k, lk⟩ := h
  subst hH
  exact cT_ok R hw lk fun b l1 p1 e1 R1 q1 => k _ l1 p1 e1 R1 q1
theorem QW.qt (h : QW X W e wt) : QT X W e wt := PW.pt h
theorem qw_and1 (ha : QT X W a wt) : QW X W (.BoolOp .And [a] pos) wt := pw_and1 ha
theorem qw_or1 (ha : QT X W a wt) : QW X W (.BoolOp .Or [a] pos) wt := pw_or1 ha
theorem qw_and (ha : QT X W a wt) (hb : QW X W (.BoolOp .And (b :: es) pos) wt') : QW X W (.BoolOp .And (a :: b :: es) pos) (wAnd wt wt') := PW.imp (pw_and ha hb) fun σ H Q h => by
  obtain ⟨p, σd, l, Qd, Ed, hH, R, hw, k, lk⟩ := h
  subst hH
  refine cT_ok R hw lk fun b l1 p1 e1 R1 q1 => ?_
  cases b with
  | true => exact iteT (cT_ok R1 q1 (lk.mono e1) fun b l2 p2 e2 R2 q2 => k _ l2 p2 (e1.trans e2) R2 q2)
  | false => exact iteF (k _ l1 p1 e1 R1 q1)
theorem qw_or (ha : QT X W a wt) (hb : QW X W (.BoolOp .Or (b :: es) pos) wt') : QW X W (.BoolOp .Or (a :: b :: es) pos) (wOr wt wt') := PW.imp (pw_or ha hb) fun σ H Q h => by
  obtain ⟨p, σd, l, Qd, Ed, hH, R, hw, k, lk⟩ := h
  subst hH
  refine cT_ok R hw lk fun b l1 p1 e1 R1 q1 => ?_
  cases b with
  | true => exact iteT (k _ l1 p1 e1 R1 q1)
  | false => exact iteF (cT_ok R1 q1 (lk.mono e1) fun b l2 p2 e2 R2 q2 => k _ l2 p2 (e1.trans e2) R2 q2)
/-- and, or as values: all but the last give bools -/
def kAndV (wb : WE) (σ : SS) (Q : P → LS → Prop) (E : EK) (b : Bool) (l : LS) : Prop := if b = true then wb σ l Q E else Q (.d (.bl false)) l
def wAndV (wa wb : WE) (σ : SS) (l : LS) (Q : P → LS → Prop) (E : EK) : Prop := wa σ l (kB (kAndV wb σ Q E)) E
def kOrV (wb : WE) (σ : SS) (Q : P → LS → Prop) (E : EK) (b : Bool) (l : LS) : Prop := if b = true then Q (.d (.bl true)) l else wb σ l Q E
def wOrV (wa wb : WE) (σ : SS) (l : LS) (Q : P → LS → Prop) (E : EK) : Prop := wa σ l (kB (kOrV wb σ Q E)) E
def kNotV (Q : P → LS → Prop) (b : Bool) (l : LS) : Prop := Q (.d (.bl (!b))) l
def wNotV (wa : WE) (σ : SS) (l : LS) (Q : P → LS → Prop) (E : EK) : Prop := wa σ l (kB (kNotV Q)) E
theorem qe_one {op : BoolOp} (ha : QE X W a wa) : QE X W (.BoolOp op [a] pos) wa := pe_one ha
theorem qe_and (ha : QE X W a wa) (hb : QE X W (.BoolOp .And (b :: es) pos) wb) : QE X W (.BoolOp .And (a :: b :: es) pos) (wAndV wa wb) := PE.imp (pe_and ha hb) fun σ H Q h => by
  obtain ⟨p, σd, l, Qd, Ed, hH, R, hw, k, lk⟩ := h
  subst hH
  refine cE_ok R hw lk fun x l1 v p1 e1 R1 r1 q1 => ?_
  obtain ⟨b, rfl, q⟩ := isB_ok r1 q1
  refine ⟨b, rfl, ?_⟩
  cases b with
  | true => exact iteT (cE_ok R1 q (lk.mono e1) fun y l2 v2 p2 e2 R2 r2 q2 => k _ l2 v2 p2 (e1.trans e2) R2 r2 q2)
  | false => exact iteF (k (.d (.bl _)) l1 _ p1 e1 R1 (RD.bl _) q)
theorem qe_or (ha : QE X W a wa) (hb : QE X W (.BoolOp .Or (b :: es) pos) wb) : QE X W (.BoolOp .Or (a :: b :: es) pos) (wOrV wa wb) := PE.imp (pe_or ha hb) fun σ H Q h => by
  obtain ⟨p, σd, l, Qd, Ed, hH, R, hw, k, lk⟩ := h
  subst hH
  refine cE_ok R hw lk fun x l1 v p1 e1 R1 r1 q1 => ?_
  obtain ⟨b, rfl, q⟩ := isB_ok r1 q1
  refine ⟨b, rfl, ?_⟩
  cases b with
  | true => exact iteT (k (.d (.bl _)) l1 _ p1 e1 R1 (RD.bl _) q)
  | false => exact iteF (cE_ok R1 q (lk.mono e1) fun y l2 v2 p2 e2 R2 r2 q2 => k _ l2 v2 p2 (e1.trans e2) R2 r2 q2)
theorem qe_not (ha : QE X W a wa) : QE X W (.UnaryOp .Not a pos) (wNotV wa) := PE.imp (pe_not ha) fun σ H Q h => by
  obtain ⟨p, σd, l, Qd, Ed, hH, R, hw, k, lk⟩ := h
  subst hH
  refine cE_ok R hw lk fun x l1 v p1 e1 R1 r1 q1 => ?_
  obtain ⟨b, rfl, q⟩ := isB_ok r1 q1
  exact ⟨b, rfl, k (.d (.bl _)) l1 _ p1 e1 R1 (RD.bl _) q⟩
def kIfE (wa wb : WE) (σ : SS) (Q : P → LS → Prop) (E : EK) (b : Bool) (l : LS) : Prop := if b = true then wa σ l Q E else wb σ l Q E
def wIfE (wt : WT) (wa wb : WE) (σ : SS) (l : LS) (Q : P → LS → Prop) (E : EK) : Prop := wt σ l (kIfE wa wb σ Q E) E
theorem qe_ifE (hc : QT X W c wt) (ha : QE X W a wa) (hb : QE X W b wb) : QE X W (.IfExp c a b pos) (wIfE wt wa wb) := PE.imp (pe_ifExp hc ha hb) fun σ H Q h => by
  obtain ⟨p, σd, l, Qd, Ed, hH, R, hw, k, lk⟩ := h
  subst hH
  refine cT_ok R hw lk fun b l1 p1 e1 R1 q1 => ?_
  cases b with
  | true => exact iteT (cE_ok R1 q1 (lk.mono e1) fun y l2 v2 p2 e2 R2 r2 q2 => k _ l2 v2 p2 (e1.trans e2) R2 r2 q2)
  | false => exact iteF (cE_ok R1 q1 (lk.mono e1) fun y l2 v2 p2 e2 R2 r2 q2 => k _ l2 v2 p2 (e1.trans e2) R2 r2 q2)
/-- a < b < c -/
def kCh3 (rd' : OD2) (wc : WE) (σ : SS) (y : P) (Q : P → LS → Prop) (E : EK) (b : Bool) (l : LS) : Prop := if b = true then wc σ l (kOp2 rd' y Q) E else Q (.d (.bl false)) l
def kCh2 (rd rd' : OD2) (wc : WE) (σ : SS) (x : P) (Q : P → LS → Prop) (E : EK) (y : P) (l : LS) : Prop := rd x y l (kB (kCh3 rd' wc σ y Q E))
def kCh1 (rd rd' : OD2) (wb wc : WE) (σ : SS) (Q : P → LS → Prop) (E : EK) (x : P) (l : LS) : Prop := wb σ l (kCh2 rd rd' wc σ x Q E) E
def wChain (rd rd' : OD2) (wa wb wc : WE) (σ : SS) (l : LS) (Q : P → LS → Prop) (E : EK) : Prop := wa σ l (kCh1 rd rd' wb wc σ Q E) E
theorem chain_ok {r r' : R2} {rd rd' : OD2} (hr : RefOp X.K r rd) (hr' : RefOp X.K r' rd') {σ : St} {H : Hp} {Q : VK} (h : cE X.K W (wChain rd rd' wa wb wc) σ H Q) : tChain r r' (cE X.K W wa) (cE X.K W wb) (cE X.K W wc) σ H Q := by
  obtain ⟨p, σd, l, Qd, Ed, hH, R, hw, k, lk⟩ := h
  subst hH
  refine cE_ok R hw lk fun x l1 vx p1 e1 R1 r1 q1 => cE_ok R1 q1 (lk.mono e1) fun y l2 vy p2 e2 R2 r2 q2 =>
    hr p2 l2 x y vx vy _ _ R2.wf R2.ce (r1.mono e2) r2 q2 fun d l3 v p3 e3 w3 c3 r3 q3 => ?_
  obtain ⟨b, rfl, q⟩ := isB_ok r3 q3
  have R3 := R2.ext e3 w3 c3
  refine ⟨b, rfl, ?_⟩
  cases b with
  | true => exact iteT (cE_ok R3 q (lk.mono ((e1.trans e2).trans e3)) fun z l4 vz p4 e4 R4 r4 q4 =>
      hr' p4 l4 y z vy vz _ _ R4.wf R4.ce (r2.mono (e3.trans e4)) r4 q4 fun d l5 v p5 e5 w5 c5 r5 q5 => k d l5 v p5 ((((e1.trans e2).trans e3).trans e4).trans e5) (R4.ext e5 w5 c5) r5 q5)
  | false => exact iteF (k (.d (.bl _)) l3 _ p3 ((e1.trans e2).trans e3) R3 (RD.bl _) q)
theorem qe_chain {op op' : CmpOp} {r r' : R2} {rd rd' : OD2} (ho : OpR X (compareOp op) r) (hr : RefOp X.K r rd) (ho' : OpR X (compareOp op') r') (hr' : RefOp X.K r' rd') (ha : QE X W a wa) (hb : QE X W b wb) (hc : QE X W c wc)
    (hm : lastMarks [op, op'] [b, c] = false := by with_unfolding_all rfl) : QE X W (.Compare a [op, op'] [b, c] pos) (wChain rd rd' wa wb wc) := PE.imp (pe_chain ho ho' ha hb hc hm) fun _ _ _ h => chain_ok hr hr' h
theorem qt_chain {op op' : CmpOp} {r r' : R2} {rd rd' : OD2} (ho : OpR X (compareOp op) r) (hr : RefOp X.K r rd) (ho' : OpR X (compareOp op') r') (hr' : RefOp X.K r' rd') (ha : QE X W a wa) (hb : QE X W b wb) (hc : QE X W c wc)
    (hm : lastMarks [op, op'] [b, c] = false := by with_unfolding_all rfl) : QT X W (.Compare a [op, op'] [b, c] pos) (wB (wChain rd rd' wa wb wc)) := PT.imp (pt_chain ho ho' ha hb hc hm) fun σ H Q h => by
  obtain ⟨p, σd, l, Qd, Ed, hH, R, hw, k, lk⟩ := h
  subst hH
  exact chain_ok (X := X) (W := W) hr hr' (cE_ok R hw lk fun x l1 v p1 e1 R1 r1 q1 => by
    obtain ⟨b, rfl, q⟩ := isB_ok r1 q1
    exact ⟨b, rfl, k b l1 p1 e1 R1 q⟩)

/-! ### arguments -/
def wNil (_ : SS) (l : LS) (Q : List P → LS → Prop) (_ : EK) : Prop := Q [] l
def kC2 (x : P) (Q : List P → LS → Prop) (xs : List P) (l : LS) : Prop := Q (x :: xs) l
def kC1 (ws : WA) (σ : SS) (Q : List P → LS → Prop) (E : EK) (x : P) (l : LS) : Prop := ws σ l (kC2 x Q) E
def wCons (we : WE) (ws : WA) (σ : SS) (l : LS) (Q : List P → LS → Prop) (E : EK) : Prop := we σ l (kC1 ws σ Q E) E
theorem qa_nil : QA X W [] wNil := PA.imp pa_nil fun σ H Q ⟨p, σd, l, Qd, Ed, hH, R, hw, k, lk⟩ => by
  subst hH
  exact k [] l [] p (Ext.refl p) R .nil hw
theorem qa_cons (ha : QE X W e we) (hr : QA X W es ws) (hs : starEach (e :: es) X.env = (false, eval e X.env) :: starEach es X.env := by rfl) : QA X W (e :: es) (wCons we ws) :=
  PA.imp (pa_cons ha hr hs) fun σ H Q ⟨p, σd, l, Qd, Ed, hH, R, hw, k, lk⟩ => by
    subst hH
    exact cE_ok R hw lk fun x l1 vx p1 e1 R1 r1 q1 => cA_ok R1 q1 (lk.mono e1) fun xs l2 vs p2 e2 R2 r2 q2 => k _ l2 _ p2 (e1.trans e2) R2 (.cons (r1.mono e2) r2) q2
/-- a call of a built-in by name -/
def kCB (rd : ODn) (Q : P → LS → Prop) (xs : List P) (l : LS) : Prop := rd xs l Q
def wCB (rd : ODn) (ws : WA) (σ : SS) (l : LS) (Q : P → LS → Prop) (E : EK) : Prop := ws σ l (kCB rd Q) E
theorem cb_ok {r : List V → Hp → VK → Prop} {rd : ODn} (hr : RefCall X.K r rd) {σ : St} {H : Hp} {Q : VK} (h : cE X.K W (wCB rd ws) σ H Q) : tCB r (cA X.K W ws) σ H Q := by
  obtain ⟨p, σd, l, Qd, Ed, hH, R, hw, k, lk⟩ := h
  subst hH
  exact cA_ok R hw lk fun xs l1 vs p1 e1 R1 r1 q1 => hr p1 l1 xs vs _ _ R1.wf R1.ce r1 q1 fun d l' v p' e' w' c' r' q' => k d l' v p' (e1.trans e') (R1.ext e' w' c') r' q'
theorem qe_callB {x : Str} {q : Pos} {id : String} {r : List V → Hp → VK → Prop} {rd : ODn} (hc : CallR X (.builtin id) r) (hr : RefCall X.K r rd) (hg : Gl X x) (hm : X.mg x = none) (hv : bootBuiltins x = some (.builtin id)) (ha : QA X W (e :: es) ws)
    (hn : x ≠ "__name__" := by decide) (hdb : (x == ("__debug__" : Str)) = false := by decide) (he : starEach (e :: es) X.env = (false, eval e X.env) :: starEach es X.env := by rfl) (hpl : (backTo pos (starEach es X.env)).any (·.1) = false := by rfl) :
    QE X W (.Call (.Name x q) (e :: es) [] pos) (wCB rd ws) := PE.imp (pe_callB hc hg hm hv ha hn hdb he hpl) fun _ _ _ h => cb_ok hr h
theorem qe_callTy {x : Str} {q : Pos} {T : String} {r : List V → Hp → VK → Prop} {rd : ODn} (hc : CallR X (.type T) r) (hr : RefCall X.K r rd) (hg : Gl X x) (hm : X.mg x = none) (hv : bootBuiltins x = some (.type T)) (ha : QA X W (e :: es) ws)
    (hn : x ≠ "__name__" := by decide) (hdb : (x == ("__debug__" : Str)) = false := by decide) (he : starEach (e :: es) X.env = (false, eval e X.env) :: starEach es X.env := by rfl) (hpl : (backTo pos (starEach es X.env)).any (·.1) = false := by rfl) :
    QE X W (.Call (.Name x q) (e :: es) [] pos) (wCB rd ws) := PE.imp (pe_callTy hc hg hm hv ha hn hdb he hpl) fun _ _ _ h => cb_ok hr h
end

/-! ### statements -/
section
variable {X : Cx} {W : WX} {st : Stmt} {rest : List Stmt} {w u : WS} {e : Expr} {we : WE} {wt : WT} {pos : Pos}
def wNext (D : ED) (σ : SS) (l : LS) : Prop := D.nx σ l
def wSeq (w u : WS) (D : ED) (σ : SS) (l : LS) : Prop := w { D with nx := u D } σ l
def exK (D : ED) (σ : SS) (ex : Ex) (l : LS) : Prop := D.ex ex σ l
theorem EndsR.thn {K : PySem.W.Frag} {p : Pt} {D : Ends} {Dd : ED} (k : EndsR K W p D Dd) : EndsR K W p { D with nx := cS K W u D } { Dd with nx := u Dd } :=
  ⟨fun p' σ' σd' l' e R q => cS_ok R q (k.mono e), k.bk, k.ct, k.rt, k.ex⟩
theorem qss_nil : QSs X W [] wNext := PSs.imp pss_nil fun D σ H ⟨p, σd, l, Dd, hH, R, hw, k⟩ => by
  subst hH
  exact k.nx p σ σd l (Ext.refl p) R hw
theorem qss_cons (h1 : QS X W st w) (h2 : QSs X W rest u) : QSs X W (st :: rest) (wSeq w u) := PSs.imp (pss_cons h1 h2) fun D σ H ⟨p, σd, l, Dd, hH, R, hw, k⟩ => by
  subst hH
  exact cS_ok R hw k.thn
theorem qss_one (h1 : QS X W st w) : QSs X W [st] w := pss_one h1
theorem qs_pass : QS X W (.Pass pos) wNext := PS.imp ps_pass fun D σ H ⟨p, σd, l, Dd, hH, R, hw, k⟩ => by
  subst hH
  exact k.nx p σ σd l (Ext.refl p) R hw
def wBreak (D : ED) (σ : SS) (l : LS) : Prop := D.bk σ l
def wCont (D : ED) (σ : SS) (l : LS) : Prop := D.ct σ l
theorem qs_break : QS X W (.Break pos) wBreak := PS.imp ps_break fun D σ H ⟨p, σd, l, Dd, hH, R, hw, k⟩ => by
  subst hH
  exact k.bk p σ σd l (Ext.refl p) R hw
theorem qs_continue : QS X W (.Continue pos) wCont := PS.imp ps_continue fun D σ H ⟨p, σd, l, Dd, hH, R, hw, k⟩ => by
  subst hH
  exact k.ct p σ σd l (Ext.refl p) R hw
theorem qs_doc {x j pos'} : QS X W (.Expr (.Constant (.str x) j pos) pos') wNext := PS.imp ps_doc fun D σ H ⟨p, σd, l, Dd, hH, R, hw, k⟩ => by
  subst hH
  exact k.nx p σ σd l (Ext.refl p) R hw
def kDrop (D : ED) (σ : SS) (_ : P) (l : LS) : Prop := D.nx σ l
def wDrop (we : WE) (D : ED) (σ : SS) (l : LS) : Prop := we σ l (kDrop D σ) (exK D σ)
theorem qs_expr (he : QE X W e we) (hs : swapsWith e none pos.line X.env = pure false := by rfl) : QS X W (.Expr e pos) (wDrop we) := PS.imp (ps_expr he hs) fun D σ H ⟨p, σd, l, Dd, hH, R, hw, k⟩ => by
  subst hH
  exact cE_ok R hw k.link fun x l1 v p1 e1 R1 r1 q1 => k.nx p1 σ σd l1 e1 R1 q1
def wRet (we : WE) (D : ED) (σ : SS) (l : LS) : Prop := we σ l D.rt (exK D σ)
theorem qs_ret (he : QE X W e we) : QS X W (.Return (some e) pos) (wRet we) := PS.imp (ps_ret he) fun D σ H ⟨p, σd, l, Dd, hH, R, hw, k⟩ => by
  subst hH
  exact cE_ok R hw k.link fun x l1 v p1 e1 R1 r1 q1 => k.rt p1 x v l1 e1 R1.wf R1.ce r1 q1
def wRetN (D : ED) (_ : SS) (l : LS) : Prop := D.rt (.d .non) l
theorem qs_retN : QS X W (.Return none pos) wRetN := PS.imp ps_retN fun D σ H ⟨p, σd, l, Dd, hH, R, hw, k⟩ => by
  subst hH
  exact k.rt p (.d .non) _ l (Ext.refl p) R.wf R.ce RD.non hw
def kIf (w u : WS) (D : ED) (σ : SS) (b : Bool) (l : LS) : Prop := if b = true then w D σ l else u D σ l
def wIf (wt : WT) (w u : WS) (D : ED) (σ : SS) (l : LS) : Prop := wt σ l (kIf w u D σ) (exK D σ)
theorem qs_if {c : Expr} {a b : List Stmt} (hc : QT X W c wt) (ha : QSs X W a w) (hb : QSs X W b u) : QS X W (.If c a b pos) (wIf wt w u) := PS.imp (ps_if hc ha hb) fun D σ H ⟨p, σd, l, Dd, hH, R, hw, k⟩ => by
  subst hH
  refine cT_ok R hw k.link fun b l1 p1 e1 R1 q1 => ?_
  cases b with
  | true => exact iteT (cS_ok R1 q1 (k.mono e1))
  | false => exact iteF (cS_ok R1 q1 (k.mono e1))
/-! ### targets -/
def gN (i : Nat) (d : P) (σ : SS) (l : LS) (Q : SS → LS → Prop) : Prop := Q (σ.set i (some d)) l
theorem qg_name {i : Nat} {x : Str} (hN : X.N.Nodup) (hi : X.N[i]? = some x) (hx : Loc X.env.scope x) (hf : X.fn x = true ∨ X.env.scope.names.lookup x = some .local := by first | exact .inl rfl | exact .inr rfl | assumption) : QG X (.Name x pos) (gN i) :=
  PG.imp (pg_name hN hi hx hf) fun v σ H Q ⟨p, σd, l, d, Qd, hH, R, r, hw, k⟩ => by
    subst hH
    exact k p _ _ l (Ext.refl p) (R.set r) hw
def gE (ds : List D) (σ : SS) (l : LS) (Q : SS → LS → Prop) : Prop := match ds with
  | [] => Q σ l
  | _ => False
def kG (gs : WGs) (ds : List D) (Q : SS → LS → Prop) (σ : SS) (l : LS) : Prop := gs ds σ l Q
def gC (g : WG) (gs : WGs) (ds : List D) (σ : SS) (l : LS) (Q : SS → LS → Prop) : Prop := match ds with
  | d :: ds => g (.d d) σ l (kG gs ds Q)
  | [] => False
theorem qgs_nil : QGs X [] gE := PGs.imp pgs_nil fun vs σ H Q ⟨p, σd, l, ds, Qd, hH, R, r, hw, k⟩ => by
  subst hH
  cases r with
  | nil => exact ⟨rfl, k p _ _ l (Ext.refl p) R hw⟩
  | cons _ _ => cases hw
theorem qgs_cons {es : List Expr} {g : WG} {gs : WGs} (h1 : QG X e g) (h2 : QGs X es gs) (hs : (assignEach (e :: es) X.env).map (·.2) = assign e X.env :: (assignEach es X.env).map (·.2) := by rfl) : QGs X (e :: es) (gC g gs) :=
  PGs.imp (pgs_cons h1 h2 hs) fun vs σ H Q ⟨p, σd, l, ds, Qd, hH, R, r, hw, k⟩ => by
    subst hH
    cases r with
    | nil => cases hw
    | cons h r => exact ⟨_, _, rfl, cG_ok R (d := .d _) h hw fun p1 σ1 σd1 l1 e1 R1 q1 => ⟨p1, σd1, l1, _, _, rfl, R1, r.mono e1.hf, q1, fun p2 σ2 σd2 l2 e2 R2 q2 => k p2 σ2 σd2 l2 (e1.trans e2) R2 q2⟩⟩
def gT (n : Nat) (gs : WGs) (d : P) (σ : SS) (l : LS) (Q : SS → LS → Prop) : Prop := match d with
  | .d (.tup ds) => ds.length = n ∧ gs ds σ l Q
  | _ => False
theorem qg_tup {es : List Expr} {k : Nat} {gs : WGs} {n : Nat} (hc : X.calm = true) (h : QGs X es gs) (hn : (assignEach es X.env).length = n := by rfl) (hst : (assignEach es X.env).findIdx? (·.1) = none := by rfl) : QG X (.Tuple es k pos) (gT n gs) :=
  PG.imp (pg_tup hc h hn hst) fun v σ H Q ⟨p, σd, l, d, Qd, hH, R, r, hw, k⟩ => by
    subst hH
    cases d with
    | d d =>
      cases d with
      | tup ds =>
        cases r with
        | tup h1 h2 => exact ⟨_, _, rfl, h1.sq, h2.len.symm.trans hw.1, p, σd, l, ds, Qd, rfl, R, h2, hw.2, k⟩
      | _ => cases hw
    | _ => cases hw
def kAsg (g : WG) (σ : SS) (D : ED) (x : P) (l : LS) : Prop := g x σ l D.nx
def wAsg (we : WE) (g : WG) (D : ED) (σ : SS) (l : LS) : Prop := we σ l (kAsg g σ D) (exK D σ)
theorem asg_ok {g : WG} {D : Ends} {σ : St} {H : Hp} (h : cS X.K W (wAsg we g) D σ H) : tAsg (cE X.K W we) (cG X.K g) D σ H := by
  obtain ⟨p, σd, l, Dd, hH, R, hw, k⟩ := h
  subst hH
  exact cE_ok R hw k.link fun x l1 v p1 e1 R1 r1 q1 => cG_ok R1 r1 q1 fun p2 σ2 σd2 l2 e2 R2 q2 => k.nx p2 σ2 σd2 l2 (e1.trans e2) R2 q2
theorem qs_asg {tg : Expr} {g : WG} (he : QE X W e we) (hg : QG X tg g) (hs : swapsWithSole [tg] e pos.line X.env = pure false := by rfl) (hw : swappedStores [tg] e X.env = pure none := by rfl)
    (h1 : (assignEach [tg] X.env).map (·.2) = [assign tg X.env] := by rfl) : QS X W (.Assign [tg] e pos) (wAsg we g) := PS.imp (ps_asg he hg hs hw h1) fun _ _ _ h => asg_ok h
theorem qs_set {i : Nat} {x : Str} {pos' : Pos} (hN : X.N.Nodup) (hi : X.N[i]? = some x) (hx : Loc X.env.scope x) (he : QE X W e we) (hs : swapsWith e (some (.Name x pos')) pos.line X.env = pure false := by rfl)
    (hf : X.fn x = true ∨ X.env.scope.names.lookup x = some .local := by first | exact .inl rfl | exact .inr rfl | assumption) : QS X W (.Assign [.Name x pos'] e pos) (wAsg we (gN i)) :=
  PS.imp (ps_set hN hi hx he hs hf) fun D σ H h => by
    obtain ⟨p, σd, l, Dd, hH, R, hw, k⟩ := h
    subst hH
    exact cE_ok R hw k.link fun x l1 v p1 e1 R1 r1 q1 => k.nx p1 _ _ l1 e1 (R1.set r1) q1
/-- x op= e of values that are never changed in place -/
def kAug2 (i : Nat) (D : ED) (σ : SS) (z : P) (l : LS) : Prop := D.nx (σ.set i (some z)) l
def kAug1 (i : Nat) (rd : OD2) (D : ED) (σ : SS) (x y : P) (l : LS) : Prop := rd x y l (kAug2 i D σ)
def wAug (i : Nat) (rd : OD2) (we : WE) (D : ED) (σ : SS) (l : LS) : Prop := match σ[i]? with
  | some (some x) => we σ l (kAug1 i rd D σ x) (exK D σ)
  | _ => False
theorem qs_aug {i : Nat} {x : Str} {op : Operator} {ti : TIp} {rd : OD2} {pos' : Pos} (hN : X.N.Nodup) (hi : X.N[i]? = some x) (hx : Loc X.env.scope x) (he : QE X W e we) (ho : PIp X op ti) (hr : RefOp X.K ti rd)
    (hf : X.fn x = true ∨ X.env.scope.names.lookup x = some .local := by first | exact .inl rfl | exact .inr rfl | assumption) : QS X W (.AugAssign (.Name x pos') op e pos) (wAug i rd we) :=
  PS.imp (ps_aug hN hi hx he ho hf) fun D σ H h => by
    obtain ⟨p, σd, l, Dd, hH, R, hw, k⟩ := h
    subst hH
    unfold wAug at hw
    split at hw
    · rename_i d hd
      obtain ⟨v, h1, h2⟩ := R.sl.2 i d hd
      exact ⟨v, h1, cE_ok R hw k.link fun y l1 vy p1 e1 R1 r1 q1 => hr p1 l1 d y v vy _ _ R1.wf R1.ce (h2.mono e1) r1 q1 fun d' l' v' p' e' w' c' r' q' => k.nx p' _ _ l' (e1.trans e') ((R1.ext e' w' c').set r') q'⟩
    · exact hw.elim
end
end QL
set_option Elab.async false
set_option linter.all false
set_option maxRecDepth 100000
set_option maxHeartbeats 4000000
/-! QL3: operators, built-ins, displays, subscripts, methods, over plain data. -/
namespace QL
open PySem L2

section
variable {K : PySem.W.Frag} {p : Pt} {l : LS}
theorem RPs.one {x : P} {vs : List V} (h : RPs K p [x] vs) : ∃ v, vs = [v] ∧ RP K p x v := by
  cases h with
  | cons r t => cases t; exact ⟨_, rfl, r⟩
theorem RPs.two {x y : P} {vs : List V} (h : RPs K p [x, y] vs) : ∃ v w, vs = [v, w] ∧ RP K p x v ∧ RP K p y w := by
  cases h with
  | cons r t =>
    obtain ⟨w, rfl, r2⟩ := RPs.one t
    exact ⟨_, w, rfl, r, r2⟩
/-- a new list, tuple -/
theorem After.newT {Qd : P → LS → Prop} {Q : VK} (k : After K p Qd Q) (w : WF p) (ce : Cells K p l) {xs : List D} {vs : List V} (r : RDs K p xs vs) (q : Qd (.d (.tup xs)) l) : ∀ a, p.H a = none → Q (.ref a) (upd p.H a (.tup vs)) := fun a ha =>
  k _ l _ (p.frz a (.tup vs)) (ext_frz ha) (wf_frz w) (Cells.frz w ce ha) (show RP K (p.frz a (.tup vs)) (.d (.tup xs)) (.ref a) from RD.tup ⟨Or.inr rfl, upd_same⟩ (r.mono (ext_frz ha).hf)) q
theorem After.newL {Qd : P → LS → Prop} {Q : VK} (k : After K p Qd Q) (w : WF p) (ce : Cells K p l) {xs : List D} {vs : List V} (r : RDs K p xs vs) (q : Qd (.d (.lst xs)) l) : ∀ a, p.H a = none → Q (.ref a) (upd p.H a (.lst vs)) := fun a ha =>
  k _ l _ (p.frz a (.lst vs)) (ext_frz ha) (wf_frz w) (Cells.frz w ce ha) (show RP K (p.frz a (.lst vs)) (.d (.lst xs)) (.ref a) from RD.lst ⟨Or.inr rfl, upd_same⟩ (r.mono (ext_frz ha).hf)) q
/-- a new list that may change -/
theorem After.newC {Qd : P → LS → Prop} {Q : VK} (k : After K p Qd Q) (w : WF p) (ce : Cells K p l) {xs : List D} {vs : List V} (r : RDs K p xs vs) (q : Qd (.loc l.length) (l ++ [.lst xs])) : ∀ a, p.H a = none → Q (.ref a) (upd p.H a (.lst vs)) := fun a ha =>
  k (.loc l.length) (l ++ [.lst xs]) (.ref a) (p.new a (.lst vs)) (ext_new ha) (wf_new w ha) (Cells.new w ce ha (show CellOk K (p.new a (.lst vs)) (.lst xs) a from ⟨fun z => w.nF ha z, vs, upd_same, r.mono (ext_new ha).hf⟩))
    (show RP K (p.new a (.lst vs)) (.loc l.length) (.ref a) from ⟨a, by
      show (p.rho ++ [a])[l.length]? = some a
      rw [ce.1, List.getElem?_append_right (Nat.le_refl _)]
      simp, rfl⟩) q
/-- what becomes of a new list: it stays as it is, or it is a cell -/
inductive Fresh where | frz | cell
def freshL (f : Fresh) (xs : List D) (l : LS) (Q : P → LS → Prop) : Prop := match f with
  | .frz => Q (.d (.lst xs)) l
  | .cell => Q (.loc l.length) (l ++ [.lst xs])
theorem After.fresh {Qd : P → LS → Prop} {Q : VK} (k : After K p Qd Q) (w : WF p) (ce : Cells K p l) {xs : List D} {vs : List V} (r : RDs K p xs vs) (f : Fresh) (q : freshL f xs l Qd) : ∀ a, p.H a = none → Q (.ref a) (upd p.H a (.lst vs)) := by
  cases f with
  | frz => exact k.newL w ce r q
  | cell => exact k.newC w ce r q
/-- ints -/
theorem RDs.ints : ∀ {ns : List Int} {vs : List V}, RDs K p (ns.map .int) vs → vs = ns.map V.int
  | [], _, .nil => rfl
  | n :: ns, _, .cons h r => by
    cases h
    rw [RDs.ints r]
    rfl
theorem RDs.of_ints : ∀ ns : List Int, RDs K p (ns.map .int) (ns.map V.int)
  | [] => .nil
  | n :: ns => .cons (.int n) (RDs.of_ints ns)
theorem RDs.bls : ∀ {ns : List Bool} {vs : List V}, RDs K p (ns.map .bl) vs → vs = ns.map V.bl
  | [], _, .nil => rfl
  | n :: ns, _, .cons h r => by
    cases h
    rw [RDs.bls r]
    rfl
end

/-! ### operators -/
def oII (C : Int → Int → Prop) (g : Int → Int → Int) (x y : P) (l : LS) (Q : P → LS → Prop) : Prop := match x, y with
  | .d (.int i), .d (.int j) => C i j ∧ Q (.d (.int (g i j))) l
  | _, _ => False
def oI0 (g : Int → Int → Int) (x y : P) (l : LS) (Q : P → LS → Prop) : Prop := match x, y with
  | .d (.int i), .d (.int j) => Q (.d (.int (g i j))) l
  | _, _ => False
def oB0 (g : Int → Int → Bool) (x y : P) (l : LS) (Q : P → LS → Prop) : Prop := match x, y with
  | .d (.int i), .d (.int j) => Q (.d (.bl (g i j))) l
  | _, _ => False
section
variable {K : PySem.W.Frag}
theorem ref_II {C : Int → Int → Prop} {g : Int → Int → Int} : RefOp K (rI C fun i j => .int (g i j)) (oII C g) := fun p l x y vx vy Qd Q w ce rx ry h k => by
  unfold oII at h
  split at h
  · cases rx; cases ry
    exact ⟨_, _, rfl, rfl, h.1, k.same w ce (d := .d _) (RD.int _) h.2⟩
  · exact h.elim
theorem ref_I0 {g : Int → Int → Int} : RefOp K (rI0 fun i j => .int (g i j)) (oI0 g) := fun p l x y vx vy Qd Q w ce rx ry h k => by
  unfold oI0 at h
  split at h
  · cases rx; cases ry
    exact ⟨_, _, rfl, rfl, k.same w ce (d := .d _) (RD.int _) h⟩
  · exact h.elim
theorem ref_B0 {g : Int → Int → Bool} : RefOp K (rI0 fun i j => .bl (g i j)) (oB0 g) := fun p l x y vx vy Qd Q w ce rx ry h k => by
  unfold oB0 at h
  split at h
  · cases rx; cases ry
    exact ⟨_, _, rfl, rfl, k.same w ce (d := .d _) (RD.bl _) h⟩
  · exact h.elim
theorem ref_ip {g : Int → Int → Int} : RefOp K (ipI g) (oI0 g) := fun p l x y vx vy Qd Q w ce rx ry h k => by
  unfold oI0 at h
  split at h
  · cases rx; cases ry
    exact ⟨_, _, rfl, rfl, k.same w ce (d := .d _) (RD.int _) h⟩
  · exact h.elim
def oU (g : Int → Int) (x : P) (l : LS) (Q : P → LS → Prop) : Prop := match x with
  | .d (.int i) => Q (.d (.int (g i))) l
  | _ => False
theorem ref_U {g : Int → Int} : RefUn K (rU fun i => .int (g i)) (oU g) := fun p l x vx Qd Q w ce rx h k => by
  unfold oU at h
  split at h
  · cases rx
    exact ⟨_, rfl, k.same w ce (d := .d _) (RD.int _) h⟩
  · exact h.elim
/-- is None -/
def isNon : P → Bool
  | .d .non => true
  | _ => false
theorem isNon_ok {p : Pt} {x : P} {v : V} (r : RP K p x v) : decide (v = .non) = isNon x := by
  cases x with
  | d x => cases x <;> cases r <;> simp [isNon]
  | loc _ => obtain ⟨a, _, rfl⟩ := r; simp [isNon]
  | exc _ _ _ _ => obtain ⟨rfl, _⟩ := r; simp [isNon]
def oIs (neg : Bool) (x y : P) (l : LS) (Q : P → LS → Prop) : Prop := match y with
  | .d .non => Q (.d (.bl (if neg then !isNon x else isNon x))) l
  | _ => False
theorem ref_isN : RefOp K (fun x y H Q => y = .non ∧ Q (.bl (decide (x = .non))) H) (oIs false) := fun p l x y vx vy Qd Q w ce rx ry h k => by
  unfold oIs at h
  split at h
  · cases ry
    exact ⟨rfl, k.same w ce (d := .d _) (by rw [isNon_ok rx]; exact RD.bl _) h⟩
  · exact h.elim
theorem ref_notN : RefOp K (fun x y H Q => y = .non ∧ Q (.bl (!decide (x = .non))) H) (oIs true) := fun p l x y vx vy Qd Q w ce rx ry h k => by
  unfold oIs at h
  split at h
  · cases ry
    exact ⟨rfl, k.same w ce (d := .d _) (by rw [isNon_ok rx]; exact RD.bl _) h⟩
  · exact h.elim

/-! ### == of data -/
mutual
def D.py : D → PyData
  | .non => .none
  | .bl b => .bool b
  | .int i => .int i
  | .str x => .str x
  | .tup xs => .tuple (D.pys xs)
  | .lst xs => .list (D.pys xs)
  | .scr xs => .list (D.pys xs)
  | .ty _ => .none
  | .ktu xs => .tuple (D.pys xs)
  | .dk _ _ => .none
  | .dt _ _ => .none
  | .obj _ _ _ => .none
def D.pys : List D → List PyData
  | [] => []
  | x :: xs => x.py :: D.pys xs
end
/-- data no deeper than n -/
def dOk : Nat → D → Prop
  | _, .non => True
  | _, .bl _ => True
  | _, .int _ => True
  | _, .str x => PyData.strOk x = true
  | n + 1, .tup xs => ∀ x ∈ xs, dOk n x
  | n + 1, .lst xs => ∀ x ∈ xs, dOk n x
  | n + 1, .ktu xs => ∀ x ∈ xs, dOk n x
  | _, _ => False
def D.eqv (a b : D) : Bool := PyData.eqv a.py b.py
theorem dOk_tup {n : Nat} {xs : List D} : dOk (n + 1) (.tup xs) ↔ ∀ x ∈ xs, dOk n x := by simp only [dOk]
theorem dOk_lst {n : Nat} {xs : List D} : dOk (n + 1) (.lst xs) ↔ ∀ x ∈ xs, dOk n x := by simp only [dOk]
mutual
theorem dOk_sh : ∀ (x : D) (n : Nat), dOk n x → x.py.canLay0 = true ∧ x.py.depth ≤ n
  | .non, n, _ => by simp [D.py, PyData.canLay0, PyData.depth]
  | .bl _, n, _ => by simp [D.py, PyData.canLay0, PyData.depth]
  | .int _, n, _ => by simp [D.py, PyData.canLay0, PyData.depth]
  | .str x, n, h => by
    have h' : PyData.strOk x = true := by cases n <;> exact h
    simp [D.py, PyData.canLay0, PyData.depth, h']
  | .ty _, n, h => by cases n <;> exact h.elim
  | .scr _, n, h => by cases n <;> exact h.elim
  | .obj _ _ _, n, h => by cases n <;> exact h.elim
  | .dk _ _, n, h => by cases n <;> exact h.elim
  | .dt _ _, n, h => by cases n <;> exact h.elim
  | .ktu xs, 0, h => h.elim
  | .ktu xs, n + 1, h => by
    have q := dOks_sh xs n h
    simp only [D.py, PyData.canLay0, PyData.depth]
    exact ⟨q.1, by omega⟩
  | .tup xs, 0, h => h.elim
  | .lst xs, 0, h => h.elim
  | .tup xs, n + 1, h => by
    have q := dOks_sh xs n h
    simp only [D.py, PyData.canLay0, PyData.depth]
    exact ⟨q.1, by omega⟩
  | .lst xs, n + 1, h => by
    have q := dOks_sh xs n h
    simp only [D.py, PyData.canLay0, PyData.depth]
    exact ⟨q.1, by omega⟩
theorem dOks_sh : ∀ (xs : List D) (n : Nat), (∀ x ∈ xs, dOk n x) → PyData.canLayAll0 (D.pys xs) = true ∧ PyData.depthAll (D.pys xs) ≤ n
  | [], n, _ => by simp [D.pys, PyData.canLayAll0, PyData.depthAll]
  | x :: xs, n, h => by
    have h1 := dOk_sh x n (h x List.mem_cons_self)
    have h2 := dOks_sh xs n fun y hy => h y (List.mem_cons_of_mem _ hy)
    simp only [D.pys, PyData.canLayAll0, PyData.depthAll, h1.1, h2.1, Bool.and_self, true_and]
    omega
end
theorem dOk_shaped {x : D} {n : Nat} (h : dOk n x) (hn : n ≤ 64 := by decide) : SeqAt.shaped x.py = true := by
  obtain ⟨h1, h2⟩ := dOk_sh x n h
  simp only [SeqAt.shaped, h1, Bool.true_and, decide_eq_true_eq]
  omega
mutual
theorem RD.dp {p : Pt} : ∀ {x : D} {v : V} {n : Nat}, RD K p x v → dOk n x → Dp K p.H v x.py
  | _, _, _, .non, _ => .non
  | _, _, _, .bl b, _ => .bl b
  | _, _, _, .int i, _ => .int i
  | _, _, _, .str x, _ => .str x
  | _, _, n, .ty _, h => by cases n <;> exact h.elim
  | _, _, n, .scr _ _, h => by cases n <;> exact h.elim
  | _, _, n, .obj _ _ _, h => by cases n <;> exact h.elim
  | _, _, n, .dk _ _ _ _, h => by cases n <;> exact h.elim
  | _, _, n, .dt _ _ _ _, h => by cases n <;> exact h.elim
  | _, _, 0, .ktu _ _, h => h.elim
  | _, _, n + 1, .ktu h1 h2, h => .tup (seqT_empty h1) (RDs.dp h2 h)
  | _, _, 0, .tup _ _, h => h.elim
  | _, _, 0, .lst _ _, h => h.elim
  | _, _, n + 1, .tup h1 h2, h => .tup h1.sq (RDs.dp h2 h)
  | _, _, n + 1, .lst h1 h2, h => .lst (LstAt.sq (K := K) h1) (RDs.dp h2 h)
theorem RDs.dp {p : Pt} : ∀ {xs : List D} {vs : List V} {n : Nat}, RDs K p xs vs → (∀ x ∈ xs, dOk n x) → DpAll K p.H vs (D.pys xs)
  | _, _, _, .nil, _ => .nil
  | _, _, _, .cons h1 h2, h => .cons (RD.dp h1 (h _ List.mem_cons_self)) (RDs.dp h2 fun y hy => h y (List.mem_cons_of_mem _ hy))
end
/-- a value as data -/
def snap (l : LS) : P → Option D
  | .d x => some x
  | .loc n => match l[n]? with
    | some (.lst xs) => some (.lst xs)
    | some (.frz xs) => some (.lst xs)
    | _ => none
  | _ => none
theorem snap_ok {p : Pt} {l : LS} {x : P} {v : V} {d : D} {n : Nat} (ce : Cells K p l) (r : RP K p x v) (h : snap l x = some d) (o : dOk n d) : Dp K p.H v d.py := by
  cases x with
  | d x =>
    cases h
    exact RD.dp r o
  | loc m =>
    obtain ⟨a, h1, rfl⟩ := r
    cases e : l[m]? with
    | none => simp [snap, e] at h
    | some c =>
      obtain ⟨b, h2, h3⟩ := ce.2 m c e
      rw [h1] at h2
      cases h2
      cases c with
      | lst ys =>
        simp [snap, e] at h
        subst h
        obtain ⟨_, vs, h4, h5⟩ := h3
        cases n with
        | zero => exact o.elim
        | succ n => exact .lst (.inl (.inl h4)) (RDs.dp h5 o)
      | frz ys =>
        simp [snap, e] at h
        subst h
        obtain ⟨vs, h4, h5⟩ := h3
        cases n with
        | zero => exact o.elim
        | succ n => exact .lst (LstAt.sq (K := K) h4) (RDs.dp h5 o)
      | dk _ => simp [snap, e] at h
      | dt _ => simp [snap, e] at h
      | fz _ => simp [snap, e] at h
  | exc _ _ _ _ => cases h
def oEq (neg : Bool) (x y : P) (l : LS) (Q : P → LS → Prop) : Prop := match snap l x, snap l y with
  | some a, some b => dOk 60 a ∧ dOk 60 b ∧ Q (.d (.bl (if neg then !D.eqv a b else D.eqv a b))) l
  | _, _ => False
theorem ref_eq : RefOp K (rEqD K) (oEq false) := fun p l x y vx vy Qd Q w ce rx ry h k => by
  unfold oEq at h
  split at h
  · rename_i a b ha hb
    exact ⟨_, _, snap_ok ce rx ha h.1, snap_ok ce ry hb h.2.1, dOk_shaped h.1, dOk_shaped h.2.1, k.same w ce (d := .d _) (RD.bl _) h.2.2⟩
  · exact h.elim
theorem ref_ne : RefOp K (rNeD K) (oEq true) := fun p l x y vx vy Qd Q w ce rx ry h k => by
  unfold oEq at h
  split at h
  · rename_i a b ha hb
    exact ⟨_, _, snap_ok ce rx ha h.1, snap_ok ce ry hb h.2.1, dOk_shaped h.1, dOk_shaped h.2.1, k.same w ce (d := .d _) (RD.bl _) h.2.2⟩
  · exact h.elim
/-! what eqv says -/
/-- no True, no False -/
def noB : D → Prop
  | .bl _ => False
  | .tup xs => ∀ x ∈ xs, noB x
  | .lst xs => ∀ x ∈ xs, noB x
  | .scr _ => False
  | .ty _ => False
  | .obj _ _ _ => False
  | .ktu _ => False
  | .dk _ _ => False
  | .dt _ _ => False
  | _ => True
mutual
theorem eqv_of : ∀ (a b : D), noB a → noB b → (PyData.eqv a.py b.py = true ↔ a = b)
  | .non, b, _, hb => by cases b <;> simp_all [D.py, PyData.eqv, noB]
  | .int i, b, _, hb => by cases b <;> simp_all [D.py, PyData.eqv, noB]
  | .str i, b, _, hb => by cases b <;> simp_all [D.py, PyData.eqv, noB]
  | .tup xs, b, ha, hb => by
    cases b with
    | tup ys =>
      simp only [noB] at ha hb
      simp only [D.py, PyData.eqv, D.tup.injEq]
      exact eqvs_of xs ys ha hb
    | _ => simp_all [D.py, PyData.eqv, noB]
  | .lst xs, b, ha, hb => by
    cases b with
    | lst ys =>
      simp only [noB] at ha hb
      simp only [D.py, PyData.eqv, D.lst.injEq]
      exact eqvs_of xs ys ha hb
    | _ => simp_all [D.py, PyData.eqv, noB]
  | .bl _, _, ha, _ => by simp [noB] at ha
  | .scr _, _, ha, _ => by simp [noB] at ha
  | .ty _, _, ha, _ => by simp [noB] at ha
  | .obj _ _ _, _, ha, _ => by simp [noB] at ha
  | .ktu _, _, ha, _ => by simp [noB] at ha
  | .dk _ _, _, ha, _ => by simp [noB] at ha
  | .dt _ _, _, ha, _ => by simp [noB] at ha
theorem eqvs_of : ∀ (as bs : List D), (∀ x ∈ as, noB x) → (∀ x ∈ bs, noB x) → (PyData.eqvAll (D.pys as) (D.pys bs) = true ↔ as = bs)
  | [], [], _, _ => by simp [D.pys, PyData.eqvAll]
  | [], _ :: _, _, _ => by simp [D.pys, PyData.eqvAll]
  | _ :: _, [], _, _ => by simp [D.pys, PyData.eqvAll]
  | a :: as, b :: bs, ha, hb => by
    simp only [D.pys, PyData.eqvAll, Bool.and_eq_true, List.cons.injEq]
    rw [eqv_of a b (ha a List.mem_cons_self) (hb b List.mem_cons_self), eqvs_of as bs (fun x hx => ha x (List.mem_cons_of_mem _ hx)) (fun x hx => hb x (List.mem_cons_of_mem _ hx))]
end
theorem D.eqv_iff {a b : D} (ha : noB a) (hb : noB b) : D.eqv a b = true ↔ a = b := eqv_of a b ha hb
theorem D.eqv_self {a : D} (ha : noB a) : D.eqv a a = true := (eqv_of a a ha ha).mpr rfl
@[simp] theorem D.eqv_int (i j : Int) : D.eqv (.int i) (.int j) = decide (i = j) := by
  by_cases h : i = j <;> simp [D.eqv, D.py, PyData.eqv, h]
@[simp] theorem D.eqv_bl (i j : Bool) : D.eqv (.bl i) (.bl j) = (i == j) := by simp [D.eqv, D.py, PyData.eqv]
@[simp] theorem D.eqv_str (i j : Str) : D.eqv (.str i) (.str j) = (i == j) := by simp [D.eqv, D.py, PyData.eqv]
@[simp] theorem D.eqv_non : D.eqv .non .non = true := by simp [D.eqv, D.py, PyData.eqv]
end
end QL
set_option Elab.async false
set_option linter.all false
set_option maxRecDepth 100000
set_option maxHeartbeats 4000000
/-! QL4: sequences, built-ins, methods. -/
namespace QL
open PySem L2

section
variable {K : PySem.W.Frag} {p : Pt} {l : LS}
/-! ### in, not in: flat things -/
def flatD : D → Bool
  | .non => true
  | .bl _ => true
  | .int _ => true
  | .str _ => true
  | _ => false
theorem flat_ok {x : D} {v : V} (r : RD K p x v) (f : flatD x = true) : flatV v = true ∧ ∀ y u, RD K p y u → flatD y = true → eqV u v = D.eqv y x := by
  cases r with
  | non => exact ⟨rfl, fun y u r f => by cases r <;> simp_all [eqV, D.eqv, D.py, PyData.eqv, flatD]⟩
  | bl b => exact ⟨rfl, fun y u r f => by cases r <;> simp_all [eqV, D.eqv, D.py, PyData.eqv, flatD]⟩
  | int i => exact ⟨rfl, fun y u r f => by cases r <;> simp_all [eqV, D.eqv, D.py, PyData.eqv, flatD]⟩
  | str i => exact ⟨rfl, fun y u r f => by cases r <;> simp_all [eqV, D.eqv, D.py, PyData.eqv, flatD]⟩
  | ty _ => cases f
  | tup _ _ => cases f
  | lst _ _ => cases f
  | scr _ _ => cases f
  | ktu _ _ => cases f
  | dk _ _ _ _ => cases f
  | dt _ _ _ _ => cases f
  | obj _ _ _ => cases f
theorem flats_ok {x : D} {v : V} (r : RD K p x v) (f : flatD x = true) : ∀ {ys : List D} {vs : List V}, RDs K p ys vs → ys.all flatD = true → vs.all flatV = true ∧ inV v vs = ys.any fun y => D.eqv y x
  | _, _, .nil, _ => ⟨rfl, rfl⟩
  | y :: ys, u :: us, .cons h t, g => by
    simp only [List.all_cons, Bool.and_eq_true] at g
    have ih := flats_ok r f t g.2
    have h1 := (flat_ok r f).2 y u h g.1
    refine ⟨by simp [(flat_ok h g.1).1, ih.1], ?_⟩
    have ih2 := ih.2
    unfold inV at ih2 ⊢
    rw [List.any_cons, List.any_cons, h1, ih2]
def oIn (neg : Bool) (x y : P) (l : LS) (Q : P → LS → Prop) : Prop := match x, seqOf l y with
  | .d a, some ys => flatD a = true ∧ ys.all flatD = true ∧ Q (.d (.bl (if neg then !(ys.any fun z => D.eqv z a) else ys.any fun z => D.eqv z a))) l
  | _, _ => False
theorem ref_in {neg : Bool} : RefOp K (rIn K neg) (oIn neg) := fun p l x y vx vy Qd Q w ce rx ry h k => by
  unfold oIn at h
  split at h
  · rename_i a ys hy
    obtain ⟨b, vs, rfl, hs, hr⟩ := seqOf_ok ce ry hy
    have hh := flats_ok (p := p) rx h.1 hr h.2.1
    refine ⟨b, vs, rfl, hs, (flat_ok (p := p) rx h.1).1, hh.1, ?_⟩
    rw [hh.2]
    exact k.same w ce (d := .d _) (RD.bl _) h.2.2
  · exact h.elim

/-! ### joining -/
def oCat (f : Fresh) (x y : P) (l : LS) (Q : P → LS → Prop) : Prop := match lstOf l x, lstOf l y with
  | some a, some b => a.length + b.length ≤ sizeLine ∧ freshL f (a ++ b) l Q
  | _, _ => False
theorem ref_cat {f : Fresh} : RefOp K rCat (oCat f) := fun p l x y vx vy Qd Q w ce rx ry h k => by
  unfold oCat at h
  split at h
  · rename_i xs ys hx hy
    obtain ⟨a, vs, rfl, ha, ra⟩ := lstOf_ok ce rx hx
    obtain ⟨b, ws, rfl, hb, rb⟩ := lstOf_ok ce ry hy
    refine ⟨a, b, vs, ws, rfl, rfl, ha, hb, by rw [← ra.len, ← rb.len]; exact h.1, k.fresh w ce (ra.append rb) f h.2⟩
  · exact h.elim
def oCatT (x y : P) (l : LS) (Q : P → LS → Prop) : Prop := match x, y with
  | .d (.tup a), .d (.tup b) => a.length + b.length ≤ sizeLine ∧ Q (.d (.tup (a ++ b))) l
  | _, _ => False
theorem ref_catT : RefOp K (rCatA K) oCatT := fun p l x y vx vy Qd Q w ce rx ry h k => by
  unfold oCatT at h
  split at h
  · rename_i xs ys
    cases rx with
    | tup h1 r1 =>
      cases ry with
      | tup h2 r2 =>
        refine ⟨_, _, _, _, rfl, rfl, h1.sq, h2.sq, by rw [← r1.len, ← r2.len]; exact h.1, fun e => ?_, fun _ e => ?_, fun _ _ => k.newT w ce (r1.append r2) h.2⟩
        · subst e
          cases r1
          exact k.same w ce (d := .d _) (RD.tup h2 r2) h.2
        · subst e
          cases r2
          have q := h.2
          rw [List.append_nil] at q
          exact k.same w ce (d := .d _) (RD.tup h1 r1) q
  · exact h.elim
def oCatS (x y : P) (l : LS) (Q : P → LS → Prop) : Prop := match x, y with
  | .d (.str a), .d (.str b) => a.length + b.length ≤ sizeLine ∧ Q (.d (.str (a ++ b))) l
  | _, _ => False
theorem ref_catS : RefOp K (fun x y H Q => ∃ i j, x = .str i ∧ y = .str j ∧ i.length + j.length ≤ sizeLine ∧ Q (.str (i ++ j)) H) oCatS := fun p l x y vx vy Qd Q w ce rx ry h k => by
  unfold oCatS at h
  split at h
  · cases rx; cases ry
    exact ⟨_, _, rfl, rfl, h.1, k.same w ce (d := .d _) (RD.str _) h.2⟩
  · exact h.elim
/-! ### subscripts -/
theorem RDs.atI {xs : List D} {vs : List V} {i : Int} {x : D} (r : RDs K p xs vs) (e : atI xs i = some x) : ∃ v, atI vs i = some v ∧ RD K p x v := by
  unfold L2.atI at e ⊢
  rw [← r.len]
  cases q : ixN xs.length i with
  | none => rw [q] at e; cases e
  | some j =>
    rw [q] at e
    exact r.get e
def oIx (x y : P) (l : LS) (Q : P → LS → Prop) : Prop := match y with
  | .d (.int i) => match seqOf l x with
    | some xs => ∃ v, atI xs i = some v ∧ Q (.d v) l
    | none => match x with
      | .d (.str z) => z.length ≤ sizeLine ∧ ∃ c, atI z.cps.toList i = some c ∧ Q (.d (.str ⟨#[c]⟩)) l
      | _ => False
  | _ => False
theorem ref_ix : RefOp K (rIx K) oIx := fun p l x y vx vy Qd Q w ce rx ry h k => by
  unfold oIx at h
  split at h
  · rename_i i
    cases ry
    split at h
    · rename_i xs hx
      obtain ⟨a, vs, rfl, hs, hr⟩ := seqOf_ok ce rx hx
      obtain ⟨d, h1, h2⟩ := h
      obtain ⟨v, h3, h4⟩ := hr.atI h1
      have q := k.same w ce (d := .d d) h4 h2
      rcases hs with hs | hs
      · exact .inl ⟨a, vs, i, v, rfl, rfl, hs, h3, q⟩
      · exact .inr (.inl ⟨a, vs, i, v, rfl, rfl, hs, h3, q⟩)
    · split at h
      · cases rx
        obtain ⟨hz, c, h1, h2⟩ := h
        exact .inr (.inr ⟨_, i, c, rfl, rfl, hz, h1, k.same w ce (d := .d _) (RD.str _) h2⟩)
      · exact h.elim
  · exact h.elim
end
section
variable {X : Cx} {W : WX} {a b e o : Expr} {es : List Expr} {wa wb we wo : WE} {ws : WA} {pos : Pos}
theorem qe_ix (ha : QE X W a wa) (hb : QE X W b wb) (hs : PlainIx b) : QE X W (.Subscript a b pos) (wOp oIx wa wb) := PE.imp (pe_ix ix_seq ha hb hs) fun _ _ _ h => op_ok ref_ix h
/-! ### slices -/
abbrev WO := SS → LS → (Option Int → LS → Prop) → EK → Prop
def cO (K : PySem.W.Frag) (W : WX) (w : WO) : TO := fun σ H Q => ∃ (p : Pt) (σd : SS) (l : LS) (Qd : Option Int → LS → Prop) (Ed : EK), p.H = H ∧ Rel K p σ σd l ∧ w σd l Qd Ed ∧
  (∀ b l' p', Ext p p' → Rel K p' σ σd l' → Qd b l' → Q b p'.H) ∧ LinkE K W p σ σd Ed
def QO (X : Cx) (W : WX) (e : Option Expr) (w : WO) : Prop := PO X e (cO X.K W w)
theorem PO.imp {X : Cx} {e : Option Expr} {t t' : TO} (h : PO X e t) (k : ∀ σ H Q, t' σ H Q → t σ H Q) : PO X e t' := ⟨fun pins s σ H Q I q => h.run pins s σ H Q I (k σ H Q q)⟩
theorem cO_ok {K : PySem.W.Frag} {p : Pt} {σ : St} {σd : SS} {l : LS} {w : WO} {Q : Option Int → Hp → Prop} {Qd : Option Int → LS → Prop} {Ed : EK} (R : Rel K p σ σd l) (hw : w σd l Qd Ed) (lk : LinkE K W p σ σd Ed)
    (k : ∀ b l' p', Ext p p' → Rel K p' σ σd l' → Qd b l' → Q b p'.H) : cO K W w σ p.H Q := ⟨p, σd, l, Qd, Ed, rfl, R, hw, k, lk⟩
def wNoPart (_ : SS) (l : LS) (Q : Option Int → LS → Prop) (_ : EK) : Prop := Q none l
def kPart (Q : Option Int → LS → Prop) (x : P) (l : LS) : Prop := match x with
  | .d (.int i) => Q (some i) l
  | _ => False
def wPart (we : WE) (σ : SS) (l : LS) (Q : Option Int → LS → Prop) (E : EK) : Prop := we σ l (kPart Q) E
theorem qo_none : QO X W none wNoPart := PO.imp po_none fun σ H Q ⟨p, σd, l, Qd, Ed, hH, R, hw, k, lk⟩ => by
  subst hH
  exact k none l p (Ext.refl p) R hw
theorem qo_some (h : QE X W e we) : QO X W (some e) (wPart we) := PO.imp (po_some h) fun σ H Q ⟨p, σd, l, Qd, Ed, hH, R, hw, k, lk⟩ => by
  subst hH
  refine cE_ok R hw lk fun x l1 v p1 e1 R1 r1 q1 => ?_
  unfold kPart at q1
  split at q1
  · cases r1
    exact ⟨_, rfl, k _ l1 p1 e1 R1 q1⟩
  · exact q1.elim
def cutD {α : Type} (xs : List α) (lo hi : Option Int) : List α := (xs.drop (HT.sIx xs.length 0 lo)).take (HT.sIx xs.length xs.length hi - HT.sIx xs.length 0 lo)
theorem RDs.cut {K : PySem.W.Frag} {p : Pt} {xs : List D} {vs : List V} (r : RDs K p xs vs) (lo hi : Option Int) : RDs K p (cutD xs lo hi) (cutV vs lo hi) := by
  unfold cutD cutV
  rw [r.len]
  exact (r.drop _).take _
abbrev ODs := P → Option Int → Option Int → LS → (P → LS → Prop) → Prop
def RefSl (K : PySem.W.Frag) (r : V → Option Int → Option Int → Hp → VK → Prop) (rd : ODs) : Prop := ∀ (p : Pt) (l : LS) (x : P) (vx : V) (lo hi : Option Int) (Qd : P → LS → Prop) (Q : VK), WF p → Cells K p l → RP K p x vx → rd x lo hi l Qd → After K p Qd Q → r vx lo hi p.H Q
def kSl3 (rd : ODs) (x : P) (i : Option Int) (Q : P → LS → Prop) (j : Option Int) (l : LS) : Prop := rd x i j l Q
def kSl2 (rd : ODs) (wh : WO) (σ : SS) (x : P) (Q : P → LS → Prop) (E : EK) (i : Option Int) (l : LS) : Prop := wh σ l (kSl3 rd x i Q) E
def kSl1 (rd : ODs) (wl wh : WO) (σ : SS) (Q : P → LS → Prop) (E : EK) (x : P) (l : LS) : Prop := wl σ l (kSl2 rd wh σ x Q E) E
def wSl (rd : ODs) (we : WE) (wl wh : WO) (σ : SS) (l : LS) (Q : P → LS → Prop) (E : EK) : Prop := we σ l (kSl1 rd wl wh σ Q E) E
theorem qe_sl {r : V → Option Int → Option Int → Hp → VK → Prop} {rd : ODs} {lo hi : Option Expr} {wl wh : WO} {p2 : Pos} (hr : SlR X r) (rr : RefSl X.K r rd) (he : QE X W e we) (hl : QO X W lo wl) (hu : QO X W hi wh) : QE X W (.Subscript e (.Slice lo hi none p2) pos) (wSl rd we wl wh) :=
  PE.imp (pe_slice hr he hl hu) fun σ H Q ⟨p, σd, l, Qd, Ed, hH, R, hw, k, lk⟩ => by
    subst hH
    exact cE_ok R hw lk fun x l1 v p1 e1 R1 r1 q1 => cO_ok R1 q1 (lk.mono e1) fun i l2 p2 e2 R2 q2 => cO_ok R2 q2 (lk.mono (e1.trans e2)) fun j l3 p3 e3 R3 q3 =>
      rr p3 l3 x v i j _ _ R3.wf R3.ce (r1.mono (e2.trans e3)) q3 fun d l' v' p' e' w' c' r' q' => k d l' v' p' (((e1.trans e2).trans e3).trans e') (R3.ext e' w' c') r' q'
def oSlL (f : Fresh) (x : P) (lo hi : Option Int) (l : LS) (Q : P → LS → Prop) : Prop := match x with
  | .d (.tup _) => False
  | .d (.ktu _) => False
  | _ => match seqOf l x with
    | some xs => freshL f (cutD xs lo hi) l Q
    | none => False
theorem ref_slL {K : PySem.W.Frag} {f : Fresh} : RefSl K (rSlL K) (oSlL f) := fun p l x vx lo hi Qd Q w ce rx h k => by
  unfold oSlL at h
  split at h
  · exact h.elim
  · exact h.elim
  · rename_i nt nt2
    split at h
    · rename_i xs hx
      cases x with
      | d x =>
        cases x with
        | tup _ => exact absurd rfl (nt _)
        | ktu _ => exact absurd rfl (nt2 _)
        | lst ys =>
          cases hx
          cases rx with
          | lst h1 h2 => exact ⟨_, _, rfl, LstAt.sq (K := K) h1, k.fresh w ce (h2.cut lo hi) f h⟩
        | scr ys =>
          cases hx
          cases rx with
          | scr h1 h2 => exact ⟨_, _, rfl, h1.sq, k.fresh w ce (h2.cut lo hi) f h⟩
        | _ => cases hx
      | loc n =>
        obtain ⟨a, vs, rfl, h1, h2⟩ := lstOf_ok ce rx (show lstOf l (.loc n) = some xs from hx)
        exact ⟨_, _, rfl, .inl (.inl h1), k.fresh w ce (h2.cut lo hi) f h⟩
      | exc _ _ _ _ => cases hx
    · exact h.elim
def oSlT (x : P) (lo hi : Option Int) (l : LS) (Q : P → LS → Prop) : Prop := match x with
  | .d (.tup xs) => Q (.d (.tup (cutD xs lo hi))) l
  | _ => False
theorem ref_slT {K : PySem.W.Frag} : RefSl K (rSlA K) oSlT := fun p l x vx lo hi Qd Q w ce rx h k => by
  unfold oSlT at h
  split at h
  · rename_i xs
    cases rx with
    | tup h1 r1 =>
      refine ⟨_, _, rfl, h1.sq, fun e => ?_, fun _ => k.newT w ce (r1.cut lo hi) h⟩
      have e1 : cutD xs lo hi = xs := by
        unfold cutD
        rw [r1.len, e.1, e.2]
        simp [← r1.len]
      rw [e1] at h
      exact k.same w ce (d := .d _) (RD.tup h1 r1) h
  · exact h.elim
def oSlS (x : P) (lo hi : Option Int) (l : LS) (Q : P → LS → Prop) : Prop := match x with
  | .d (.str z) => z.length ≤ sizeLine ∧ Q (.d (.str (cutS z lo hi))) l
  | _ => False
theorem ref_slS {K : PySem.W.Frag} : RefSl K rSlS oSlS := fun p l x vx lo hi Qd Q w ce rx h k => by
  unfold oSlS at h
  split at h
  · cases rx
    exact ⟨_, rfl, h.1, k.same w ce (d := .d _) (RD.str _) h.2⟩
  · exact h.elim
/-! ### displays -/
def asDs : List P → Option (List D)
  | [] => some []
  | .d x :: r => (asDs r).map (x :: ·)
  | _ :: _ => none
theorem asDs_ok {K : PySem.W.Frag} {p : Pt} : ∀ {xs : List P} {vs : List V} {ds : List D}, RPs K p xs vs → asDs xs = some ds → RDs K p ds vs
  | [], _, _, .nil, h => by cases h; exact .nil
  | .d x :: r, _, ds, .cons h t, e => by
    simp only [asDs, Option.map_eq_some_iff] at e
    obtain ⟨ds', e1, rfl⟩ := e
    exact .cons h (asDs_ok t e1)
  | .loc _ :: _, _, _, _, e => by cases e
  | .exc _ _ _ _ :: _, _, _, _, e => by cases e
def kTupD (Q : P → LS → Prop) (xs : List P) (l : LS) : Prop := match asDs xs with
  | some ds => ds.length ≤ 1000 ∧ Q (.d (.tup ds)) l
  | none => False
def wTup (ws : WA) (σ : SS) (l : LS) (Q : P → LS → Prop) (E : EK) : Prop := ws σ l (kTupD Q) E
theorem qe_tup {x1} (h : QA X W es ws) : QE X W (.Tuple es x1 pos) (wTup ws) := PE.imp (pe_tup h) fun σ H Q ⟨p, σd, l, Qd, Ed, hH, R, hw, k, lk⟩ => by
  subst hH
  refine cA_ok R hw lk fun xs l1 vs p1 e1 R1 r1 q1 => ?_
  unfold kTupD at q1
  split at q1
  · rename_i ds hd
    have r := asDs_ok r1 hd
    refine ⟨by rw [← r.len]; exact Nat.le_trans q1.1 (by decide), After.newT (fun d l' v' p' e' w' c' r' q' => k d l' v' p' (e1.trans e') (R1.ext e' w' c') r' q') R1.wf R1.ce r q1.2⟩
  · exact q1.elim
def kLstD (f : Fresh) (Q : P → LS → Prop) (xs : List P) (l : LS) : Prop := match asDs xs with
  | some ds => ds.length ≤ 1000 ∧ freshL f ds l Q
  | none => False
def wLst (f : Fresh) (ws : WA) (σ : SS) (l : LS) (Q : P → LS → Prop) (E : EK) : Prop := ws σ l (kLstD f Q) E
theorem qe_lst {f : Fresh} (h : QA X W es ws) : QE X W (.List es pos) (wLst f ws) := PE.imp (pe_lst h) fun σ H Q ⟨p, σd, l, Qd, Ed, hH, R, hw, k, lk⟩ => by
  subst hH
  refine cA_ok R hw lk fun xs l1 vs p1 e1 R1 r1 q1 => ?_
  unfold kLstD at q1
  split at q1
  · rename_i ds hd
    have r := asDs_ok r1 hd
    refine ⟨by rw [← r.len]; exact Nat.le_trans q1.1 (by decide), After.fresh (fun d l' v' p' e' w' c' r' q' => k d l' v' p' (e1.trans e') (R1.ext e' w' c') r' q') R1.wf R1.ce r f q1.2⟩
  · exact q1.elim
/-- a cell that will not change any more -/
def kIce (Q : P → LS → Prop) (x : P) (l : LS) : Prop := match x with
  | .loc n => match l[n]? with
    | some (.lst xs) => Q (.d (.lst xs)) (l.set n (.frz xs))
    | some (.frz xs) => Q (.d (.lst xs)) l
    | some (.dk kvs) => Q (.d (.dk (kvs.map (·.1)) (kvs.map (·.2)))) (l.set n (.fz (.dk (kvs.map (·.1)) (kvs.map (·.2)))))
    | some (.dt kvs) => Q (.d (.dt (kvs.map (·.1)) (kvs.map (·.2)))) (l.set n (.fz (.dt (kvs.map (·.1)) (kvs.map (·.2)))))
    | some (.fz x) => Q (.d x) l
    | none => False
  | x => Q x l
def wIce (we : WE) (σ : SS) (l : LS) (Q : P → LS → Prop) (E : EK) : Prop := we σ l (kIce Q) E
theorem qe_ice (h : QE X W e we) : QE X W e (wIce we) := PE.imp h fun σ H Q ⟨p, σd, l, Qd, Ed, hH, R, hw, k, lk⟩ => by
  subst hH
  refine cE_ok R hw lk fun x l1 v p1 e1 R1 r1 q1 => ?_
  cases x with
  | d x => exact k _ _ _ _ e1 R1 r1 q1
  | exc _ _ _ _ => exact k _ _ _ _ e1 R1 r1 q1
  | loc n =>
    obtain ⟨a, h1, rfl⟩ := r1
    unfold kIce at q1
    dsimp only at q1
    cases e : l1[n]? with
    | none => rw [e] at q1; exact q1.elim
    | some c =>
      rw [e] at q1
      cases c with
      | lst xs =>
        have q : Qd (.d (.lst xs)) (l1.set n (.frz xs)) := q1
        obtain ⟨c1, r2⟩ := Cells.ice R1.wf R1.ce h1 e
        have hr := List.mem_of_getElem? h1
        exact k (.d (.lst xs)) _ _ (p1.ice a) (e1.trans (ext_ice hr)) (R1.ext (ext_ice hr) (wf_ice R1.wf hr) c1) r2 q
      | frz xs =>
        have q : Qd (.d (.lst xs)) l1 := q1
        obtain ⟨b, h2, vs, h3, h4⟩ := R1.ce.2 n _ e
        rw [h1] at h2
        cases h2
        exact k (.d (.lst xs)) _ _ p1 e1 R1 (show RP X.K p1 (.d (.lst xs)) (.ref a) from RD.lst h3 h4) q
      | dk kvs =>
        have hr := List.mem_of_getElem? h1
        obtain ⟨b, h2, nf, vs, h3, h4⟩ := R1.ce.2 n _ e
        rw [h1] at h2
        cases h2
        have rx : RD X.K (p1.ice a) (.dk (kvs.map (·.1)) (kvs.map (·.2))) (.ref a) := RD.dk (.inr rfl) h3 (by simp) (h4.mono (ext_ice hr).hf)
        exact k _ _ _ (p1.ice a) (e1.trans (ext_ice hr)) (R1.ext (ext_ice hr) (wf_ice R1.wf hr) (Cells.iceD R1.wf R1.ce h1 e rx)) (show RP X.K _ (.d _) _ from rx) q1
      | dt kvs =>
        have hr := List.mem_of_getElem? h1
        obtain ⟨b, h2, nf, vs, h3, h4⟩ := R1.ce.2 n _ e
        rw [h1] at h2
        cases h2
        have rx : RD X.K (p1.ice a) (.dt (kvs.map (·.1)) (kvs.map (·.2))) (.ref a) := RD.dt (.inr rfl) h3 (by simp) (h4.mono (ext_ice hr).hf)
        exact k _ _ _ (p1.ice a) (e1.trans (ext_ice hr)) (R1.ext (ext_ice hr) (wf_ice R1.wf hr) (Cells.iceD R1.wf R1.ce h1 e rx)) (show RP X.K _ (.d _) _ from rx) q1
      | fz x =>
        obtain ⟨b, h2, h3⟩ := R1.ce.2 n _ e
        rw [h1] at h2
        cases h2
        exact k (.d x) _ _ p1 e1 R1 h3 q1
end
section
variable {K : PySem.W.Frag}
/-! ### built-ins -/
def bLen (xs : List P) (l : LS) (Q : P → LS → Prop) : Prop := match xs with
  | [x] => match seqOf l x with
    | some ys => Q (.d (.int (ys.length : Int))) l
    | none => False
  | _ => False
theorem ref_len : RefCall K (fun xs H Q => ∃ p ys, xs = [V.ref p] ∧ (SqL K H p ys ∨ SqT K H p ys) ∧ Q (V.int ys.length) H) bLen := fun p l xs vs Qd Q w ce rx h k => by
  unfold bLen at h
  split at h
  · obtain ⟨v, rfl, r⟩ := rx.one
    split at h
    · rename_i ys hy
      obtain ⟨a, us, rfl, hs, hr⟩ := seqOf_ok ce r hy
      refine ⟨a, us, rfl, hs, ?_⟩
      rw [← hr.len]
      exact k.same w ce (d := .d _) (RD.int _) h
    · exact h.elim
  · exact h.elim
def bLenS (xs : List P) (l : LS) (Q : P → LS → Prop) : Prop := match xs with
  | [.d (.str z)] => z.length ≤ sizeLine ∧ Q (.d (.int (z.length : Int))) l
  | _ => False
theorem ref_lenS : RefCall K (fun xs H Q => ∃ z, xs = [V.str z] ∧ z.length ≤ sizeLine ∧ Q (V.int z.length) H) bLenS := fun p l xs vs Qd Q w ce rx h k => by
  unfold bLenS at h
  split at h
  · obtain ⟨v, rfl, r⟩ := rx.one
    cases r
    exact ⟨_, rfl, h.1, k.same w ce (d := .d _) (RD.int _) h.2⟩
  · exact h.elim
def bList (f : Fresh) (xs : List P) (l : LS) (Q : P → LS → Prop) : Prop := match xs with
  | [x] => match seqOf l x with
    | some ys => freshL f ys l Q
    | none => False
  | _ => False
theorem ref_list {f : Fresh} : RefCall K (fun xs H Q => ∃ p ys, xs = [V.ref p] ∧ (SqL K H p ys ∨ SqT K H p ys) ∧ ∀ l, H l = none → Q (.ref l) (upd H l (.lst ys))) (bList f) := fun p l xs vs Qd Q w ce rx h k => by
  unfold bList at h
  split at h
  · obtain ⟨v, rfl, r⟩ := rx.one
    split at h
    · rename_i ys hy
      obtain ⟨a, us, rfl, hs, hr⟩ := seqOf_ok ce r hy
      exact ⟨a, us, rfl, hs, k.fresh w ce hr f h⟩
    · exact h.elim
  · exact h.elim
def bTup (xs : List P) (l : LS) (Q : P → LS → Prop) : Prop := match xs with
  | [.d (.ktu ys)] => Q (.d (.ktu ys)) l
  | [x] => match seqOf l x with
    | some ys => Q (.d (.tup ys)) l
    | none => False
  | _ => False
theorem ref_tuple : RefCall K (fun xs H Q => ∃ p ys, xs = [V.ref p] ∧ ((SqL K H p ys ∧ ∀ l, H l = none → Q (.ref l) (upd H l (.tup ys))) ∨ (SqT K H p ys ∧ Q (.ref p) H))) bTup := fun p l xs vs Qd Q w ce rx h k => by
  unfold bTup at h
  split at h
  · obtain ⟨v, rfl, r⟩ := rx.one
    cases (show RD K p (.ktu _) v from r) with
    | ktu h1 h2 => exact ⟨_, _, rfl, .inr ⟨seqT_empty h1, k.same w ce (d := .d _) (RD.ktu h1 h2) h⟩⟩
  · rename_i x nt
    obtain ⟨v, rfl, r⟩ := rx.one
    split at h
    · rename_i ys hy
      cases x with
      | d x =>
        cases x with
        | ktu ys => exact absurd rfl (nt _)
        | tup zs =>
          cases hy
          cases r with
          | tup h1 h2 => exact ⟨_, _, rfl, .inr ⟨h1.sq, k.same w ce (d := .d _) (RD.tup h1 h2) h⟩⟩
        | lst zs =>
          cases hy
          cases r with
          | lst h1 h2 => exact ⟨_, _, rfl, .inl ⟨LstAt.sq (K := K) h1, k.newT w ce h2 h⟩⟩
        | scr zs =>
          cases hy
          cases r with
          | scr h1 h2 => exact ⟨_, _, rfl, .inl ⟨h1.sq, k.newT w ce h2 h⟩⟩
        | _ => cases hy
      | loc n =>
        obtain ⟨a, us, rfl, h1, h2⟩ := lstOf_ok ce r (show lstOf l (.loc n) = some ys from hy)
        exact ⟨_, _, rfl, .inl ⟨.inl (.inl h1), k.newT w ce h2 h⟩⟩
      | exc _ _ _ _ => cases hy
    · exact h.elim
  · exact h.elim
/-- a list (not a tuple) of things of one form -/
def lisOf (l : LS) : P → Option (List D)
  | .d (.lst xs) => some xs
  | .d (.scr xs) => some xs
  | .loc n => lstOf l (.loc n)
  | _ => none
theorem lisOf_ok {p : Pt} {l : LS} {x : P} {v : V} {xs : List D} (ce : Cells K p l) (r : RP K p x v) (h : lisOf l x = some xs) : ∃ a vs, v = .ref a ∧ SqL K p.H a vs ∧ RDs K p xs vs := by
  cases x with
  | d x =>
    cases x with
    | lst ys =>
      cases h
      cases r with
      | lst h1 h2 => exact ⟨_, _, rfl, LstAt.sq (K := K) h1, h2⟩
    | scr ys =>
      cases h
      cases r with
      | scr h1 h2 => exact ⟨_, _, rfl, h1.sq, h2⟩
    | _ => cases h
  | loc n =>
    obtain ⟨a, vs, rfl, h1, h2⟩ := lstOf_ok ce r h
    exact ⟨a, vs, rfl, .inl (.inl h1), h2⟩
  | exc _ _ _ _ => cases h
def bSum (xs : List P) (l : LS) (Q : P → LS → Prop) : Prop := match xs with
  | [x] => ∃ ns : List Int, lisOf l x = some (ns.map .int) ∧ Q (.d (.int ns.sum)) l
  | _ => False
theorem ref_sum : RefCall K (rSum K) bSum := fun p l xs vs Qd Q w ce rx h k => by
  unfold bSum at h
  split at h
  · obtain ⟨v, rfl, r⟩ := rx.one
    obtain ⟨ns, h1, h2⟩ := h
    obtain ⟨a, us, rfl, hs, hr⟩ := lisOf_ok ce r h1
    rw [hr.ints] at hs
    exact ⟨a, ns, rfl, hs, k.same w ce (d := .d _) (RD.int _) h2⟩
  · exact h.elim
def bAny (xs : List P) (l : LS) (Q : P → LS → Prop) : Prop := match xs with
  | [x] => ∃ ns : List Bool, lisOf l x = some (ns.map .bl) ∧ Q (.d (.bl (ns.any id))) l
  | _ => False
theorem ref_any : RefCall K (rAny K) bAny := fun p l xs vs Qd Q w ce rx h k => by
  unfold bAny at h
  split at h
  · obtain ⟨v, rfl, r⟩ := rx.one
    obtain ⟨ns, h1, h2⟩ := h
    obtain ⟨a, us, rfl, hs, hr⟩ := lisOf_ok ce r h1
    rw [hr.bls] at hs
    exact ⟨a, ns, rfl, hs, k.same w ce (d := .d _) (RD.bl _) h2⟩
  · exact h.elim
def bAll (xs : List P) (l : LS) (Q : P → LS → Prop) : Prop := match xs with
  | [x] => ∃ ns : List Bool, lisOf l x = some (ns.map .bl) ∧ Q (.d (.bl (ns.all id))) l
  | _ => False
theorem ref_all : RefCall K (rAll K) bAll := fun p l xs vs Qd Q w ce rx h k => by
  unfold bAll at h
  split at h
  · obtain ⟨v, rfl, r⟩ := rx.one
    obtain ⟨ns, h1, h2⟩ := h
    obtain ⟨a, us, rfl, hs, hr⟩ := lisOf_ok ce r h1
    rw [hr.bls] at hs
    exact ⟨a, ns, rfl, hs, k.same w ce (d := .d _) (RD.bl _) h2⟩
  · exact h.elim
def bMax (xs : List P) (l : LS) (Q : P → LS → Prop) : Prop := match xs with
  | [x] => ∃ ns : List Int, lisOf l x = some (ns.map .int) ∧ 0 < ns.length ∧ ∀ m, m ∈ ns → (∀ y, y ∈ ns → y ≤ m) → Q (.d (.int m)) l
  | _ => False
theorem ref_max : RefCall K (rMax K) bMax := fun p l xs vs Qd Q w ce rx h k => by
  unfold bMax at h
  split at h
  · obtain ⟨v, rfl, r⟩ := rx.one
    obtain ⟨ns, h1, h0, h2⟩ := h
    obtain ⟨a, us, rfl, hs, hr⟩ := lisOf_ok ce r h1
    rw [hr.ints] at hs
    exact ⟨a, ns, rfl, hs, h0, fun m hm hy => k.same w ce (d := .d _) (RD.int _) (h2 m hm hy)⟩
  · exact h.elim
def bMin (xs : List P) (l : LS) (Q : P → LS → Prop) : Prop := match xs with
  | [x] => ∃ ns : List Int, lisOf l x = some (ns.map .int) ∧ 0 < ns.length ∧ ∀ m, m ∈ ns → (∀ y, y ∈ ns → m ≤ y) → Q (.d (.int m)) l
  | _ => False
theorem ref_min : RefCall K (rMin K) bMin := fun p l xs vs Qd Q w ce rx h k => by
  unfold bMin at h
  split at h
  · obtain ⟨v, rfl, r⟩ := rx.one
    obtain ⟨ns, h1, h0, h2⟩ := h
    obtain ⟨a, us, rfl, hs, hr⟩ := lisOf_ok ce r h1
    rw [hr.ints] at hs
    exact ⟨a, ns, rfl, hs, h0, fun m hm hy => k.same w ce (d := .d _) (RD.int _) (h2 m hm hy)⟩
  · exact h.elim
def bInt2 (g : Int → Int → Int) (xs : List P) (l : LS) (Q : P → LS → Prop) : Prop := match xs with
  | [.d (.int i), .d (.int j)] => Q (.d (.int (g i j))) l
  | _ => False
theorem ref_int2 {g : Int → Int → Int} : RefCall K (fun xs H Q => ∃ i j, xs = [V.int i, V.int j] ∧ Q (.int (g i j)) H) (bInt2 g) := fun p l xs vs Qd Q w ce rx h k => by
  unfold bInt2 at h
  split at h
  · obtain ⟨v, u, rfl, r, r2⟩ := rx.two
    cases r; cases r2
    exact ⟨_, _, rfl, k.same w ce (d := .d _) (RD.int _) h⟩
  · exact h.elim
def bInt1 (g : Int → Int) (xs : List P) (l : LS) (Q : P → LS → Prop) : Prop := match xs with
  | [.d (.int i)] => Q (.d (.int (g i))) l
  | _ => False
theorem ref_abs : RefCall K (fun xs H Q => ∃ i, xs = [V.int i] ∧ Q (.int (if i < 0 then -i else i)) H) (bInt1 fun i => if i < 0 then -i else i) := fun p l xs vs Qd Q w ce rx h k => by
  unfold bInt1 at h
  split at h
  · obtain ⟨v, rfl, r⟩ := rx.one
    cases r
    exact ⟨_, rfl, k.same w ce (d := .d _) (RD.int _) h⟩
  · exact h.elim
theorem ref_int : RefCall K (fun xs H Q => (∃ i, xs = [V.int i] ∧ Q (.int i) H) ∨ ∃ k, xs = [.bl k] ∧ Q (.int (if k then 1 else 0)) H) (bInt1 fun i => i) := fun p l xs vs Qd Q w ce rx h k => by
  unfold bInt1 at h
  split at h
  · obtain ⟨v, rfl, r⟩ := rx.one
    cases r
    exact .inl ⟨_, rfl, k.same w ce (d := .d _) (RD.int _) h⟩
  · exact h.elim
def bStr (xs : List P) (l : LS) (Q : P → LS → Prop) : Prop := match xs with
  | [.d (.int i)] => i.natAbs.log2 < 1920 ∧ Q (.d (.str (toString i))) l
  | _ => False
theorem ref_str : RefCall K (fun xs H Q => ∃ i : Int, xs = [V.int i] ∧ i.natAbs.log2 < 1920 ∧ Q (.str (toString i)) H) bStr := fun p l xs vs Qd Q w ce rx h k => by
  unfold bStr at h
  split at h
  · obtain ⟨v, rfl, r⟩ := rx.one
    cases r
    exact ⟨_, rfl, h.1, k.same w ce (d := .d _) (RD.str _) h.2⟩
  · exact h.elim
/-- the built-in type of a thing -/
def tyOf : P → Option String
  | .d .non => some "NoneType"
  | .d (.bl _) => some "bool"
  | .d (.int _) => some "int"
  | .d (.str _) => some "str"
  | .d (.tup _) => some "tuple"
  | .d (.lst _) => some "list"
  | .d (.ktu _) => some "tuple"
  | .loc _ => some "list"
  | _ => none
theorem tupAt_ty {p : Pt} {a : Addr} {vs : List V} (h : TupAt K p a vs) : TyX K p.H (.ref a) (.type "tuple") := by
  exact .base (.tup h.2)
theorem ktuAt_ty {H : Hp} {a : Addr} {vs : List V} (h : SqT K (fun _ => none) a vs) : TyX K H (.ref a) (.type "tuple") := by
  rcases h with (h | ⟨o, h⟩) | ⟨o, its, n, h1, h2, h3⟩
  · cases h
  · cases h
  · exact .kTuple h1 h2
theorem tyOf_ok {p : Pt} {l : LS} {x : P} {v : V} {n : String} (ce : Cells K p l) (r : RP K p x v) (h : tyOf x = some n) (hl : ∀ m, x = .loc m → (lstOf l x).isSome = true) : TyX K p.H v (.type n) := by
  cases x with
  | d x =>
    cases r with
    | non => cases h; exact .base .non
    | bl _ => cases h; exact .base (.bl _)
    | int _ => cases h; exact .base (.int _)
    | str _ => cases h; exact .base (.str _)
    | tup h1 _ => cases h; exact tupAt_ty h1
    | lst h1 _ => cases h; exact .base (.lst h1.2)
    | ty _ => cases h
    | scr _ _ => cases h
    | obj _ _ _ => cases h
    | dk _ _ _ _ => cases h
    | dt _ _ _ _ => cases h
    | ktu h1 _ => cases h; exact ktuAt_ty h1
  | loc m =>
    cases h
    obtain ⟨xs, e⟩ := Option.isSome_iff_exists.mp (hl m rfl)
    obtain ⟨a, vs, rfl, h1, _⟩ := lstOf_ok ce r e
    exact .base (.lst h1)
  | exc _ _ _ _ => cases h
/-- isinstance(x, T), T a built-in type -/
def isT (n c : String) : Option Bool :=
  if n = c then (if n ∈ ["NoneType", "bool", "int", "str", "tuple", "list"] then some true else none)
  else if n = "bool" ∧ c = "int" then some true
  else if n ∈ ["NoneType", "bool", "int", "str", "tuple", "list"] ∧ c ∈ ["bool", "int", "str", "tuple", "list", "dict"] then some false else none
theorem isT_ok {n c : String} {b : Bool} (h : isT n c = some b) : kitB n c = some b := by
  unfold isT at h
  have all1 : ∀ n ∈ ["NoneType", "bool", "int", "str", "tuple", "list"], kitB n n = some true := by decide +kernel
  have all2 : ∀ n ∈ ["NoneType", "bool", "int", "str", "tuple", "list"], ∀ c ∈ ["bool", "int", "str", "tuple", "list", "dict"], n ≠ c → ¬ (n = "bool" ∧ c = "int") → kitB n c = some false := by decide +kernel
  split at h
  · rename_i e
    subst e
    split at h
    · rename_i m
      cases h
      exact all1 n m
    · cases h
  · rename_i ne
    split at h
    · rename_i m
      cases h
      obtain ⟨rfl, rfl⟩ := m
      decide +kernel
    · rename_i nb
      split at h
      · rename_i m
        cases h
        exact all2 n m.1 c m.2 ne nb
      · cases h
def bIsi (xs : List P) (l : LS) (Q : P → LS → Prop) : Prop := match xs with
  | [x, .d (.ty c)] => match tyOf x with
    | some n => match x with
      | .loc m => (lstOf l (.loc m)).isSome = true ∧ match isT n c with
        | some b => Q (.d (.bl b)) l
        | none => False
      | _ => match isT n c with
        | some b => Q (.d (.bl b)) l
        | none => False
    | none => False
  | _ => False
theorem ref_isi : RefCall K (rIsi K) bIsi := fun p l xs vs Qd Q w ce rx h k => by
  unfold bIsi at h
  split at h
  · rename_i x c
    obtain ⟨v, u, rfl, r, r2⟩ := rx.two
    cases r2
    cases e : tyOf x with
    | none => rw [e] at h; exact h.elim
    | some n =>
      rw [e] at h
      have fin : (∀ m, x = .loc m → (lstOf l x).isSome = true) → (match isT n c with | some b => Qd (.d (.bl b)) l | none => False) → rIsi K [v, .ty c] p.H Q := fun hl hq => by
        split at hq
        · rename_i b eb
          exact ⟨v, .ty c, .type n, .type c, b, rfl, .ty c, tyOf_ok ce r e hl, kit_ty (isT_ok eb), k.same w ce (d := .d _) (RD.bl _) hq⟩
        · exact hq.elim
      cases x with
      | d x => exact fin (fun m z => nomatch z) h
      | loc m => exact fin (fun m' z => by cases z; exact h.1) h.2
      | exc _ _ _ _ => exact fin (fun m z => nomatch z) h
  · exact h.elim
end
/-! ### methods of lists -/
section
variable {X : Cx} {W : WX} {a b e o : Expr} {es : List Expr} {wa wb we wo : WE} {ws : WA} {pos : Pos}
def RefMt (K : PySem.W.Frag) (r : V → List V → Hp → VK → Prop) (rd : ODm) : Prop := ∀ (p : Pt) (l : LS) (x : P) (vx : V) (xs : List P) (vs : List V) (Qd : P → LS → Prop) (Q : VK), WF p → Cells K p l → RP K p x vx → RPs K p xs vs → rd x xs l Qd → After K p Qd Q → r vx vs p.H Q
theorem RPs.mono {K : PySem.W.Frag} {p p' : Pt} (e : Ext p p') {xs : List P} {vs : List V} (h : RPs K p xs vs) : RPs K p' xs vs := Paired.mapP h fun _ _ r => r.mono e
def kBM2 (rd : ODm) (x : P) (Q : P → LS → Prop) (xs : List P) (l : LS) : Prop := rd x xs l Q
def kBM1 (rd : ODm) (ws : WA) (σ : SS) (Q : P → LS → Prop) (E : EK) (x : P) (l : LS) : Prop := (lisOf l x).isSome = true ∧ ws σ l (kBM2 rd x Q) E
def wBM (rd : ODm) (wo : WE) (ws : WA) (σ : SS) (l : LS) (Q : P → LS → Prop) (E : EK) : Prop := wo σ l (kBM1 rd ws σ Q E) E
def kBM0 (rd : ODm) (Q : P → LS → Prop) (x : P) (l : LS) : Prop := (lisOf l x).isSome = true ∧ rd x [] l Q
def wBM0 (rd : ODm) (wo : WE) (σ : SS) (l : LS) (Q : P → LS → Prop) (E : EK) : Prop := wo σ l (kBM0 rd Q) E
theorem lis_ty {K : PySem.W.Frag} {p : Pt} {l : LS} {x : P} {v : V} (ce : Cells K p l) (r : RP K p x v) (h : (lisOf l x).isSome = true) : tyV K "list" v p.H := by
  obtain ⟨xs, e⟩ := Option.isSome_iff_exists.mp h
  obtain ⟨a, vs, rfl, hs, _⟩ := lisOf_ok ce r e
  exact .inl ⟨rfl, vs, hs⟩
theorem qe_bm {name : Str} {id : String} {r : V → List V → Hp → VK → Prop} {rd : ODm} {apos cpos : Pos} (slot : Slot "list" name id) (hty : typeOf (.builtin id) = pure (.type "method_descriptor")) (hm : MtR X id r) (rr : RefMt X.K r rd) (ho : QE X W o wo) (ha : QA X W (e :: es) ws)
    (hbase : attributeBase o name X.env (eval o X.env) = eval o X.env := by rfl)
    (hp : ((backTo cpos (starEach (e :: es) X.env)).all (fun x => !x.1) && (backToKw cpos (keywordEach [] X.env)).all (fun x => x.1.isSome) && decide ((e :: es).length + ([] : List Keyword).length + (if ([] : List Keyword).isEmpty = true then 0 else 1) < 30)) = true := by rfl)
    (hline : (apos.endLine == cpos.line) = true := by rfl) (hs : starEach (e :: es) X.env = (false, eval e X.env) :: starEach es X.env := by rfl) (hpl : (backTo cpos (starEach es X.env)).any (·.1) = false := by rfl) :
    QE X W (.Call (.Attribute o name apos) (e :: es) [] cpos) (wBM rd wo ws) := PE.imp (pe_bm PySem.F.plainAttrs_list slot hty hm ho ha hbase hp hline hs hpl) fun σ H Q ⟨p, σd, l, Qd, Ed, hH, R, hw, k, lk⟩ => by
  subst hH
  exact cE_ok R hw lk fun x l1 v p1 e1 R1 r1 q1 => ⟨lis_ty R1.ce r1 q1.1, cA_ok R1 q1.2 (lk.mono e1) fun xs l2 vs p2 e2 R2 r2 q2 =>
    rr p2 l2 x v xs vs _ _ R2.wf R2.ce (r1.mono e2) r2 q2 fun d l' v' p' e' w' c' r' q' => k d l' v' p' ((e1.trans e2).trans e') (R2.ext e' w' c') r' q'⟩
theorem qe_bm0 {name : Str} {id : String} {r : V → List V → Hp → VK → Prop} {rd : ODm} {apos cpos : Pos} (slot : Slot "list" name id) (hty : typeOf (.builtin id) = pure (.type "method_descriptor")) (hm : MtR X id r) (rr : RefMt X.K r rd) (ho : QE X W o wo)
    (hbase : attributeBase o name X.env (eval o X.env) = eval o X.env := by rfl) (hline : (apos.endLine == cpos.line) = true := by rfl) : QE X W (.Call (.Attribute o name apos) [] [] cpos) (wBM0 rd wo) := PE.imp (pe_bm0 PySem.F.plainAttrs_list slot hty hm ho hbase hline) fun σ H Q ⟨p, σd, l, Qd, Ed, hH, R, hw, k, lk⟩ => by
  subst hH
  exact cE_ok R hw lk fun x l1 v p1 e1 R1 r1 q1 => ⟨lis_ty R1.ce r1 q1.1, rr p1 l1 x v [] [] _ _ R1.wf R1.ce r1 .nil q1.2 fun d l' v' p' e' w' c' r' q' => k d l' v' p' (e1.trans e') (R1.ext e' w' c') r' q'⟩
end
section
variable {K : PySem.W.Frag}
/-- a cell is written -/
theorem put_ok {p : Pt} {l : LS} {n : Nat} {v : V} {xs ys : List D} {vs us : List V} (w : WF p) (ce : Cells K p l) (r : RP K p (.loc n) v) (e : l[n]? = some (.lst xs)) : ∃ a, v = .ref a ∧ ∃ vs, p.H a = some (.lst vs) ∧ RDs K p xs vs ∧
    ∀ ys us, RDs K p ys us → Ext p (p.put a (.lst us)) ∧ WF (p.put a (.lst us)) ∧ Cells K (p.put a (.lst us)) (l.set n (.lst ys)) := by
  obtain ⟨a, h1, rfl⟩ := r
  obtain ⟨b, h2, nf, vs, h3, h4⟩ := ce.2 n _ e
  rw [h1] at h2
  cases h2
  have hr := List.mem_of_getElem? h1
  exact ⟨a, rfl, vs, h3, h4, fun ys us q => ⟨ext_put hr nf, wf_put w, Cells.put w ce h1 nf ⟨nf, us, upd_same, q.mono (ext_put hr nf).hf⟩⟩⟩
def mAppend (x : P) (xs : List P) (l : LS) (Q : P → LS → Prop) : Prop := match x, xs with
  | .loc n, [.d y] => match l[n]? with
    | some (.lst ys) => ys.length < sizeLine ∧ Q (.d .non) (l.set n (.lst (ys ++ [y])))
    | _ => False
  | _, _ => False
theorem ref_append : RefMt K rAppend mAppend := fun p l x vx xs vs Qd Q w ce rx rxs h k => by
  unfold mAppend at h
  split at h
  · rename_i n y
    obtain ⟨v, rfl, r⟩ := rxs.one
    split at h
    · rename_i ys hy
      obtain ⟨a, rfl, us, h3, h4, f⟩ := put_ok (ys := []) (us := []) (vs := []) w ce rx hy
      obtain ⟨e1, w1, c1⟩ := f (ys ++ [y]) (us ++ [v]) (h4.append (.cons r .nil))
      exact ⟨a, us, v, rfl, rfl, h3, by rw [← h4.len]; exact h.1, k (.d .non) _ _ _ e1 w1 c1 RD.non h.2⟩
    · exact h.elim
  · exact h.elim
def mPop (x : P) (xs : List P) (l : LS) (Q : P → LS → Prop) : Prop := match x, xs with
  | .loc n, [] => match l[n]? with
    | some (.lst ys) => ∃ y, ys[ys.length - 1]? = some y ∧ Q (.d y) (l.set n (.lst ys.dropLast))
    | _ => False
  | _, _ => False
theorem ref_pop : RefMt K rPop mPop := fun p l x vx xs vs Qd Q w ce rx rxs h k => by
  unfold mPop at h
  split at h
  · rename_i n
    cases rxs
    split at h
    · rename_i ys hy
      obtain ⟨y, hy1, hy2⟩ := h
      obtain ⟨a, rfl, us, h3, h4, f⟩ := put_ok (ys := []) (us := []) (vs := []) w ce rx hy
      obtain ⟨e1, w1, c1⟩ := f ys.dropLast us.dropLast h4.dropLast
      obtain ⟨v, g1, g2⟩ := h4.get hy1
      exact ⟨a, us, v, rfl, rfl, h3, by rw [← h4.len]; exact g1, k (.d y) _ _ _ e1 w1 c1 (g2.mono e1.hf) hy2⟩
    · exact h.elim
  · exact h.elim
def mPopAt (x : P) (xs : List P) (l : LS) (Q : P → LS → Prop) : Prop := match x, xs with
  | .loc n, [.d (.int i)] => match l[n]? with
    | some (.lst ys) => -(2 ^ 63) ≤ i ∧ i < 2 ^ 63 ∧ ∃ k y, seqIndex? i ys.length = some k ∧ ys[k]? = some y ∧ Q (.d y) (l.set n (.lst (ys.eraseIdx k)))
    | _ => False
  | _, _ => False
theorem ref_popAt : RefMt K rPopAt mPopAt := fun p l x vx xs vs Qd Q w ce rx rxs h k => by
  unfold mPopAt at h
  split at h
  · rename_i n i
    obtain ⟨v, rfl, r⟩ := rxs.one
    cases r
    split at h
    · rename_i ys hy
      obtain ⟨b1, b2, j, y, hj, hy1, hy2⟩ := h
      obtain ⟨a, rfl, us, h3, h4, f⟩ := put_ok (ys := []) (us := []) (vs := []) w ce rx hy
      obtain ⟨e1, w1, c1⟩ := f (ys.eraseIdx j) (us.eraseIdx j) (h4.eraseIdx j)
      obtain ⟨v, g1, g2⟩ := h4.get hy1
      exact ⟨a, us, i, j, v, rfl, rfl, h3, b1, b2, by rw [← h4.len]; exact hj, g1, k (.d y) _ _ _ e1 w1 c1 (g2.mono e1.hf) hy2⟩
    · exact h.elim
  · exact h.elim
def mRev (x : P) (xs : List P) (l : LS) (Q : P → LS → Prop) : Prop := match x, xs with
  | .loc n, [] => match l[n]? with
    | some (.lst ys) => Q (.d .non) (l.set n (.lst ys.reverse))
    | _ => False
  | _, _ => False
theorem ref_reverse : RefMt K rReverse mRev := fun p l x vx xs vs Qd Q w ce rx rxs h k => by
  unfold mRev at h
  split at h
  · rename_i n
    cases rxs
    split at h
    · rename_i ys hy
      obtain ⟨a, rfl, us, h3, h4, f⟩ := put_ok (ys := []) (us := []) (vs := []) w ce rx hy
      obtain ⟨e1, w1, c1⟩ := f ys.reverse us.reverse h4.reverse
      exact ⟨a, us, rfl, rfl, h3, k (.d .non) _ _ _ e1 w1 c1 RD.non h⟩
    · exact h.elim
  · exact h.elim
def mExtend (x : P) (xs : List P) (l : LS) (Q : P → LS → Prop) : Prop := match x, xs with
  | .loc n, [y] => match l[n]? with
    | some (.lst ys) => match y with
      | .d (.tup zs) => ys.length + zs.length ≤ sizeLine ∧ Q (.d .non) (l.set n (.lst (ys ++ zs)))
      | y => match lstOf l y with
        | some zs => ys.length + zs.length ≤ sizeLine ∧ Q (.d .non) (l.set n (.lst (ys ++ zs)))
        | none => False
    | _ => False
  | _, _ => False
end
end QL
namespace PySem
open AutoSeq1
set_option maxRecDepth 8000 in
theorem list_extend_tup (l : Addr) (items : Array Value) (n : Nat) (b : Addr) (items2 : Array Value) (n2 : Nat) (dd : Option Addr) (sl : Array (Option Value)) (hs0 : ¬(!items.isEmpty && Builtin.List.listTooLong (items.size + items2.size)) = true) (hs1 : items.size ≤ sizeLine) (hs2 : items.size + items2.size ≤ sizeLine + 1) :
    Meets (Builtin.«list.extend» ⟨[.ref l, .ref b], []⟩) (fun _ R s => s.heap.get? l = some { cls := .type "list", dict := none, data := .seq items n, slots := #[] } ∧ s.heap.get? b = some { cls := .type "tuple", dict := dd, data := .seq items2 n2, slots := sl } ∧ R (.ok (.ret Value.none)) { s with heap := s.heap.update l (Obj.mapSeq fun x => x ++ items2), toks := s.toks }) :=
  .of_wp fun prog w A R s h => by
    obtain ⟨hp, g, d, tk, os⟩ := s; obtain ⟨hl, hb, h⟩ := h; have f1 := idx_int; have f2 := sub_tuple_tuple; have f3 := sub_list_list; have f4 := sub_tuple_list; have f5 := sub_list_tuple;
    have hz' : (items ++ items2).size ≤ sizeLine + 1 := by rw [Array.size_append]; exact hs2
    wp_walk using (wpAny_updateSeq hl rfl (hz := hs1) (_hz' := hz')), wpAny_loadPart' hl, wpAny_loadPart' hb; exact ⟨_, rfl, h⟩
end PySem
namespace QL
open PySem L2
def rExtT (K : PySem.W.Frag) : V → List V → Hp → VK → Prop := fun x vs H Q => ∃ l b xs zs, x = .ref l ∧ vs = [.ref b] ∧ H l = some (.lst xs) ∧ SqT K H b zs ∧ xs.length + zs.length ≤ sizeLine ∧ Q .non (upd H l (.lst (xs ++ zs)))
theorem mt_extendT {X : Cx} : MtM X "list.extend" (rExtT X.K) := by
  intro pins s σ H x v vs u Q I rx rv h
  obtain ⟨l, b, xs, zs, rfl, rfl, hH, hB, hz, q⟩ := h
  cases rx
  obtain ⟨u, rfl, ru⟩ := rv.one
  cases ru
  obtain ⟨z, its, n, r, hl, e⟩ := I.lstM hH
  obtain ⟨its2, r2, ⟨o2, e2, hc2, n2, hd2⟩, hl2⟩ := I.tuple hB
  obtain ⟨c2, d2, dt2, sl2⟩ := o2
  dsimp only at hc2 hd2
  subst hc2; subst hd2
  have hx : xs.length = its.length := r.length
  have hy : zs.length = its2.length := r2.length
  have hsz : its.toArray.size + its2.toArray.size ≤ sizeLine := by rw [List.size_toArray, List.size_toArray]; omega
  have hlong : ¬ (!its.toArray.isEmpty && Builtin.List.listTooLong (its.toArray.size + its2.toArray.size)) = true := by
    rw [notLongL hsz, Bool.and_false]
    exact Bool.false_ne_true
  refine call_meets F.slot_list_extend ⟨_, e, rfl⟩ F.entry_list_extend (F.args_list_extend_2 _ _)
    (PySem.list_extend_tup l its.toArray n b its2.toArray n2 d2 sl2 hlong (by rw [List.size_toArray]; omega) (by omega)) ⟨e, e2, ?_⟩
  refine ⟨.non, _, I.lset (its' := its ++ its2) hH e (by simp) (r.append r2) ?_, rfl, q⟩
  rw [List.length_append]
  omega
theorem ref_extend {K : PySem.W.Frag} : RefMt K (fun x vs H Q => rExtend x vs H Q ∨ rExtT K x vs H Q) mExtend := fun p l x vx xs vs Qd Q w ce rx rxs h k => by
  unfold mExtend at h
  split at h
  · rename_i n y
    obtain ⟨v, rfl, r⟩ := rxs.one
    split at h
    · rename_i ys hy
      obtain ⟨a, rfl, us, h3, h4, f⟩ := put_ok (ys := []) (us := []) (vs := []) w ce rx hy
      split at h
      · rename_i zs
        cases r with
        | tup h1 r1 =>
          obtain ⟨e1, w1, c1⟩ := f _ _ (h4.append r1)
          exact .inr ⟨a, _, us, _, rfl, rfl, h3, h1.sq, by rw [← h4.len, ← r1.len]; exact h.1, k (.d .non) _ _ _ e1 w1 c1 RD.non h.2⟩
      · split at h
        · rename_i zs hz
          obtain ⟨b, ws, rfl, hb, rb⟩ := lstOf_ok ce r hz
          obtain ⟨e1, w1, c1⟩ := f _ _ (h4.append rb)
          exact .inl ⟨a, b, us, ws, rfl, rfl, h3, hb, by rw [← h4.len, ← rb.len]; exact h.1, k (.d .non) _ _ _ e1 w1 c1 RD.non h.2⟩
        · exact h.elim
    · exact h.elim
  · exact h.elim
theorem mt_ext {X : Cx} : MtR X "list.extend" (fun x vs H Q => rExtend x vs H Q ∨ rExtT X.K x vs H Q) := fun pins s σ H x xs v us Q I rx rv h => by
  rcases h with h | h
  · exact mt_extend pins s σ H x xs v us Q I rx rv h
  · exact mt_extendT pins s σ H x xs v us Q I rx rv h
/-! ### l[i] = v -/
section
variable {X : Cx} {W : WX} {o i : Expr} {wo wi : WE} {pos : Pos}
def noEx (_ : Ex) (_ : LS) : Prop := False
def kSub2 (d : P) (σ : SS) (x : P) (Q : SS → LS → Prop) (y : P) (l : LS) : Prop := match d, x, y with
  | .d v, .loc n, .d (.int k) => match l[n]? with
    | some (.lst ys) => ∃ j, ixN ys.length k = some j ∧ Q σ (l.set n (.lst (ys.set j v)))
    | _ => False
  | _, _, _ => False
def kSub1 (wi : WE) (d : P) (σ : SS) (Q : SS → LS → Prop) (x : P) (l : LS) : Prop := wi σ l (kSub2 d σ x Q) noEx
def gSubL (wo wi : WE) (d : P) (σ : SS) (l : LS) (Q : SS → LS → Prop) : Prop := wo σ l (kSub1 wi d σ Q) noEx
theorem LinkE.never {K : PySem.W.Frag} {p : Pt} {σ : St} {σd : SS} : LinkE K W p σ σd noEx := fun _ _ _ _ _ _ _ _ h => h.elim
theorem qg_subL (ho : QE X W o wo) (hi : QE X W i wi)
    (ha : ∀ v, assign (.Subscript o i pos) X.env v = (do
      let ov ← holding [v] (eval o X.env)
      let iv ← holding [v, ov] (eval i X.env)
      standAt pos
      holding [v, ov, iv] (setItem ov iv v)
      release [v, ov, iv] []) := by intro _; rfl) : QG X (.Subscript o i pos) (gSubL wo wi) := PG.imp (pg_sub ho hi set_list ha) fun v σ H Q ⟨p, σd, l, d, Qd, hH, R, r, hw, k⟩ => by
  subst hH
  refine cE_ok R hw LinkE.never fun x l1 vx p1 e1 R1 r1 q1 => cE_ok R1 q1 LinkE.never fun y l2 vy p2 e2 R2 r2 q2 => ?_
  unfold kSub2 at q2
  split at q2
  · rename_i z n j
    cases r2
    split at q2
    · rename_i ys hy
      obtain ⟨m, hm, q⟩ := q2
      obtain ⟨a, rfl, us, h3, h4, f⟩ := put_ok (ys := []) (us := []) (vs := []) R2.wf R2.ce (r1.mono e2) hy
      obtain ⟨e3, w3, c3⟩ := f _ _ (h4.set (RD.mono (e1.trans e2).hf r) m)
      exact ⟨a, us, j, m, rfl, rfl, h3, by rw [← h4.len]; exact hm, k (p2.put a _) σ σd _ ((e1.trans e2).trans e3) (R2.ext e3 w3 c3) q⟩
    · exact q2.elim
  · exact q2.elim
end
end QL
set_option Elab.async false
set_option linter.all false
set_option maxRecDepth 100000
set_option maxHeartbeats 4000000
/-! QL5: loops, comprehensions, defs and their calls. -/
namespace QL
open PySem L2

/-! ### what a loop walks -/
structure Items where
  xs : List D
  ok : LS → Prop
abbrev WI := SS → LS → (Items → LS → Prop) → EK → Prop
/-- at each later point the iterator gives the items one by one -/
def ItOk (K : PySem.W.Frag) (p : Pt) (J : It) (I : Items) : Prop := ∀ p2 l2, Ext p p2 → WF p2 → Cells K p2 l2 → I.ok l2 → ∀ i : Nat,
  (I.xs.length ≤ i → J.stop i p2.H) ∧ (i < I.xs.length → J.go i p2.H) ∧
  (∀ x H' d, I.xs[i]? = some d → J.yld i p2.H x H' → ∃ p3, p3.H = H' ∧ Ext p2 p3 ∧ WF p3 ∧ Cells K p3 l2 ∧ RD K p3 d x)
def cI (K : PySem.W.Frag) (W : WX) (w : WI) : TI := fun σ H R => ∃ (p : Pt) (σd : SS) (l : LS) (Rd : Items → LS → Prop) (Ed : EK), p.H = H ∧ Rel K p σ σd l ∧ w σd l Rd Ed ∧
  (∀ I l' J p', Ext p p' → Rel K p' σ σd l' → ItOk K p' J I → Rd I l' → R J p'.H) ∧ LinkE K W p σ σd Ed
def QI (X : Cx) (W : WX) (tg e : Expr) (w : WI) : Prop := PI X tg e (cI X.K W w)
theorem PI.imp {X : Cx} {tg e : Expr} {t t' : TI} (h : PI X tg e t) (k : ∀ σ H Q, t' σ H Q → t σ H Q) : PI X tg e t' := ⟨fun pins s σ H R I q => h.run pins s σ H R I (k σ H R q)⟩
theorem cI_ok {K : PySem.W.Frag} {W : WX} {p : Pt} {σ : St} {σd : SS} {l : LS} {w : WI} {R : It → Hp → Prop} {Rd : Items → LS → Prop} {Ed : EK} (Rr : Rel K p σ σd l) (hw : w σd l Rd Ed) (lk : LinkE K W p σ σd Ed)
    (k : ∀ I l' J p', Ext p p' → Rel K p' σ σd l' → ItOk K p' J I → Rd I l' → R J p'.H) : cI K W w σ p.H R := ⟨p, σd, l, Rd, Ed, rfl, Rr, hw, k, lk⟩

theorem sqL_mono {K : PySem.W.Frag} {p p' : Pt} {a : Addr} {vs : List V} (e : Ext p p') (h : (p.F a ∧ Rd p.H a (.lst vs)) ∨ SqL K (fun _ => none) a vs) : SqL K p'.H a vs := (ScrAt.mono (K := K) e.hf h).sq
section
variable {X : Cx} {W : WX} {tg e : Expr} {we : WE} {ws : WA} {pos : Pos}
/-- over a list -/
def okAll (_ : LS) : Prop := True
def okCell (n : Nat) (xs : List D) (l : LS) : Prop := l[n]? = some (.lst xs)
def kLst (R : Items → LS → Prop) (x : P) (l : LS) : Prop := match x with
  | .d (.lst xs) => R ⟨xs, okAll⟩ l
  | .d (.scr xs) => R ⟨xs, okAll⟩ l
  | .loc n => match l[n]? with
    | some (.lst xs) => R ⟨xs, okCell n xs⟩ l
    | some (.frz xs) => R ⟨xs, okAll⟩ l
    | _ => False
  | _ => False
def iLst (we : WE) (σ : SS) (l : LS) (R : Items → LS → Prop) (E : EK) : Prop := we σ l (kLst R) E
theorem it_list {K : PySem.W.Frag} {p : Pt} {a : Addr} {xs : List D} {vs : List V} {ok : LS → Prop} (hr : RDs K p xs vs) (h : ∀ p2 l2, Ext p p2 → WF p2 → Cells K p2 l2 → ok l2 → ∃ us, SqL K p2.H a us ∧ RDs K p2 xs us) : ItOk K p (Itl K a) ⟨xs, ok⟩ := fun p2 l2 e w c o i => by
  obtain ⟨us, h1, h2⟩ := h p2 l2 e w c o
  refine ⟨fun hi => ⟨us, h1, by rw [← h2.len]; exact hi⟩, fun hi => ?_, fun x H' d hd hy => ?_⟩
  · obtain ⟨v, g1, _⟩ := h2.get (List.getElem?_eq_getElem hi)
    exact ⟨us, v, h1, g1⟩
  · obtain ⟨v, g1, g2⟩ := h2.get hd
    obtain ⟨hH, hv⟩ := hy
    subst hH
    have e1 := hv us h1
    rw [g1] at e1
    cases e1
    exact ⟨p2, rfl, Ext.refl _, w, c, g2⟩
theorem qi_list (hl : QE X W e we) (hi : PI X tg e (iList X.K (cE X.K W we))) : QI X W tg e (iLst we) := PI.imp hi fun σ H R ⟨p, σd, l, Rd, Ed, hH, R0, hw, k, lk⟩ => by
  subst hH
  refine cE_ok R0 hw lk fun x l1 v p1 e1 R1 r1 q1 => ?_
  cases x with
  | d x =>
    cases x with
    | lst xs =>
      cases r1 with
      | lst h1 h2 => exact ⟨_, rfl, ⟨_, LstAt.sq (K := X.K) h1⟩, k ⟨xs, okAll⟩ l1 _ p1 e1 R1 (it_list h2 fun p2 l2 e2 w2 c2 _ => ⟨_, LstAt.sq (K := X.K) (h1.mono e2.hf), h2.mono e2.hf⟩) q1⟩
    | scr xs =>
      cases r1 with
      | scr h1 h2 => exact ⟨_, rfl, ⟨_, h1.sq⟩, k ⟨xs, okAll⟩ l1 _ p1 e1 R1 (it_list h2 fun p2 l2 e2 w2 c2 _ => ⟨_, (h1.mono e2.hf).sq, h2.mono e2.hf⟩) q1⟩
    | _ => exact q1.elim
  | loc n =>
    obtain ⟨a, h1, rfl⟩ := r1
    unfold kLst at q1
    dsimp only at q1
    cases ee : l1[n]? with
    | none => rw [ee] at q1; exact q1.elim
    | some c =>
      rw [ee] at q1
      obtain ⟨b, h2, h3⟩ := R1.ce.2 n c ee
      rw [h1] at h2
      cases h2
      cases c with
      | lst xs =>
        obtain ⟨nf, vs, h4, h5⟩ := h3
        refine ⟨a, rfl, ⟨vs, .inl (.inl h4)⟩, k ⟨xs, _⟩ l1 _ p1 e1 R1 (it_list h5 fun p2 l2 e2 w2 c2 o2 => ?_) q1⟩
        obtain ⟨b, g1, g2, us, g3, g4⟩ := c2.2 n _ o2
        obtain ⟨t, ht⟩ := e2.pre
        rw [ht, List.getElem?_append_left (List.getElem?_eq_some_iff.mp h1).1, h1] at g1
        cases g1
        exact ⟨us, .inl (.inl g3), g4⟩
      | frz xs =>
        obtain ⟨vs, h4, h5⟩ := h3
        exact ⟨a, rfl, ⟨vs, LstAt.sq (K := X.K) h4⟩, k ⟨xs, okAll⟩ l1 _ p1 e1 R1 (it_list h5 fun p2 l2 e2 w2 c2 _ => ⟨_, LstAt.sq (K := X.K) (h4.mono e2.hf), h5.mono e2.hf⟩) q1⟩
      | dk _ => exact q1.elim
      | dt _ => exact q1.elim
      | fz _ => exact q1.elim
  | exc _ _ _ _ => exact q1.elim
def kTp (R : Items → LS → Prop) (x : P) (l : LS) : Prop := match x with
  | .d (.tup xs) => R ⟨xs, okAll⟩ l
  | .d (.ktu xs) => R ⟨xs, okAll⟩ l
  | _ => False
def iTp (we : WE) (σ : SS) (l : LS) (R : Items → LS → Prop) (E : EK) : Prop := we σ l (kTp R) E
theorem qi_tup (hi : PI X tg e (iTup X.K (cE X.K W we))) : QI X W tg e (iTp we) := PI.imp hi fun σ H R ⟨p, σd, l, Rd, Ed, hH, R0, hw, k, lk⟩ => by
  subst hH
  refine cE_ok R0 hw lk fun x l1 v p1 e1 R1 r1 q1 => ?_
  cases x with
  | d x =>
    cases x with
    | tup xs =>
      cases r1 with
      | @tup a _ vs h1 h2 =>
        refine ⟨_, rfl, ⟨_, h1.sq⟩, k ⟨xs, okAll⟩ l1 _ p1 e1 R1 (fun p2 l2 e2 w2 c2 _ i => ?_) q1⟩
        have g1 := (h1.mono e2.hf).sq
        have g2 := h2.mono e2.hf
        refine ⟨fun hi => ⟨vs, g1, by rw [← g2.len]; exact hi⟩, fun hi => ?_, fun x H' d hd hy => ?_⟩
        · obtain ⟨v, z1, _⟩ := g2.get (List.getElem?_eq_getElem hi)
          exact ⟨vs, v, g1, z1⟩
        · obtain ⟨v, z1, z2⟩ := g2.get hd
          obtain ⟨hH, hv⟩ := hy
          subst hH
          have e1 := hv vs g1
          rw [z1] at e1
          cases e1
          exact ⟨p2, rfl, Ext.refl _, w2, c2, z2⟩
    | ktu xs =>
      cases r1 with
      | @ktu a _ vs h1 h2 =>
        refine ⟨_, rfl, ⟨_, seqT_empty h1⟩, k ⟨xs, okAll⟩ l1 _ p1 e1 R1 (fun p2 l2 e2 w2 c2 _ i => ?_) q1⟩
        have g1 : SqT X.K p2.H a vs := seqT_empty h1
        have g2 := h2.mono e2.hf
        refine ⟨fun hi => ⟨vs, g1, by rw [← g2.len]; exact hi⟩, fun hi => ?_, fun x H' d hd hy => ?_⟩
        · obtain ⟨v, z1, _⟩ := g2.get (List.getElem?_eq_getElem hi)
          exact ⟨vs, v, g1, z1⟩
        · obtain ⟨v, z1, z2⟩ := g2.get hd
          obtain ⟨hH, hv⟩ := hy
          subst hH
          have e1 := hv vs g1
          rw [z1] at e1
          cases e1
          exact ⟨p2, rfl, Ext.refl _, w2, c2, z2⟩
    | _ => exact q1.elim
  | _ => exact q1.elim
def rangeD (lo : Int) (n : Nat) : List D := (List.range n).map fun i => D.int (lo + (i : Nat))
theorem rangeD_len {lo : Int} {n : Nat} : (rangeD lo n).length = n := by simp [rangeD]
theorem rangeD_get {lo : Int} {n i : Nat} {d : D} (h : (rangeD lo n)[i]? = some d) : i < n ∧ d = .int (lo + (i : Nat)) := by
  unfold rangeD at h
  rw [List.getElem?_map] at h
  by_cases hi : i < n
  · rw [List.getElem?_range hi] at h
    exact ⟨hi, by simpa using h.symm⟩
  · rw [List.getElem?_eq_none (by simpa using hi)] at h
    cases h
theorem it_range {K : PySem.W.Frag} {p : Pt} {lo : Int} {n : Nat} : ItOk K p (Itr lo n) ⟨rangeD lo n, okAll⟩ := fun p2 l2 e w c o i => by
  refine ⟨fun hi => by show n ≤ i; simpa [rangeD] using hi, fun hi => by show i < n; simpa [rangeD] using hi, fun x H' d hd hy => ?_⟩
  obtain ⟨hH, rfl⟩ := hy
  obtain ⟨_, rfl⟩ := rangeD_get hd
  exact ⟨p2, hH.symm, Ext.refl _, w, c, .int _⟩
def kRg1 (R : Items → LS → Prop) (xs : List P) (l : LS) : Prop := match xs with
  | [.d (.int j)] => -(2 ^ 62) ≤ j ∧ j < 2 ^ 62 ∧ R ⟨rangeD 0 j.toNat, okAll⟩ l
  | _ => False
def iRg1 (ws : WA) (σ : SS) (l : LS) (R : Items → LS → Prop) (E : EK) : Prop := ws σ l (kRg1 R) E
theorem qi_range1 (hi : PI X tg e (iRng1 (cA X.K W ws))) : QI X W tg e (iRg1 ws) := PI.imp hi fun σ H R ⟨p, σd, l, Rd, Ed, hH, R0, hw, k, lk⟩ => by
  subst hH
  refine cA_ok R0 hw lk fun xs l1 vs p1 e1 R1 r1 q1 => ?_
  unfold kRg1 at q1
  split at q1
  · obtain ⟨v, rfl, r⟩ := r1.one
    cases r
    exact ⟨_, rfl, q1.1, q1.2.1, k _ l1 _ p1 e1 R1 it_range q1.2.2⟩
  · exact q1.elim
def kRg2 (R : Items → LS → Prop) (xs : List P) (l : LS) : Prop := match xs with
  | [.d (.int i), .d (.int j)] => (-(2 ^ 62) ≤ i ∧ i < 2 ^ 62 ∧ -(2 ^ 62) ≤ j ∧ j < 2 ^ 62) ∧ R ⟨rangeD i (j - i).toNat, okAll⟩ l
  | _ => False
def iRg2 (ws : WA) (σ : SS) (l : LS) (R : Items → LS → Prop) (E : EK) : Prop := ws σ l (kRg2 R) E
theorem qi_range2 (hi : PI X tg e (iRng2 (cA X.K W ws))) : QI X W tg e (iRg2 ws) := PI.imp hi fun σ H R ⟨p, σd, l, Rd, Ed, hH, R0, hw, k, lk⟩ => by
  subst hH
  refine cA_ok R0 hw lk fun xs l1 vs p1 e1 R1 r1 q1 => ?_
  unfold kRg2 at q1
  split at q1
  · obtain ⟨v, u, rfl, r, r2⟩ := r1.two
    cases r; cases r2
    exact ⟨_, _, rfl, q1.1, k _ l1 _ p1 e1 R1 it_range q1.2⟩
  · exact q1.elim
/-- range(a, b, -1) and the like -/
def rangeC (lo c : Int) (n : Nat) : List D := (List.range n).map fun i => D.int (lo + (i : Nat) * c)
theorem rangeC_get {lo c : Int} {n i : Nat} {d : D} (h : (rangeC lo c n)[i]? = some d) : i < n ∧ d = .int (lo + (i : Nat) * c) := by
  unfold rangeC at h
  rw [List.getElem?_map] at h
  by_cases hi : i < n
  · rw [List.getElem?_range hi] at h
    exact ⟨hi, by simpa using h.symm⟩
  · rw [List.getElem?_eq_none (by simpa using hi)] at h
    cases h
theorem rangeC_len {lo c : Int} {n : Nat} : (rangeC lo c n).length = n := by simp [rangeC]
theorem it_rangeC {K : PySem.W.Frag} {p : Pt} {lo c : Int} {n : Nat} : ItOk K p (Itc lo c n) ⟨rangeC lo c n, okAll⟩ := fun p2 l2 e w ce o i => by
  refine ⟨fun hi => by show n ≤ i; simpa [rangeC] using hi, fun hi => by show i < n; simpa [rangeC] using hi, fun x H' d hd hy => ?_⟩
  obtain ⟨hH, rfl⟩ := hy
  obtain ⟨_, rfl⟩ := rangeC_get hd
  exact ⟨p2, hH.symm, Ext.refl _, w, ce, .int _⟩
def kRg3 (R : Items → LS → Prop) (xs : List P) (l : LS) : Prop := match xs with
  | [.d (.int i), .d (.int j), .d (.int c)] => ∃ n, RgC i j c n ∧ R ⟨rangeC i c n, okAll⟩ l
  | _ => False
def iRg3 (ws : WA) (σ : SS) (l : LS) (R : Items → LS → Prop) (E : EK) : Prop := ws σ l (kRg3 R) E
theorem qi_range3 (hi : PI X tg e (iRng3 (cA X.K W ws))) : QI X W tg e (iRg3 ws) := PI.imp hi fun σ H R ⟨p, σd, l, Rd, Ed, hH, R0, hw, k, lk⟩ => by
  subst hH
  refine cA_ok R0 hw lk fun xs l1 vs p1 e1 R1 r1 q1 => ?_
  unfold kRg3 at q1
  split at q1
  · obtain ⟨n, h1, h2⟩ := q1
    cases r1 with
    | cons r t =>
      obtain ⟨v, u, rfl, r2, r3⟩ := RPs.two t
      cases r; cases r2; cases r3
      exact ⟨_, _, _, n, rfl, h1, k _ l1 _ p1 e1 R1 it_rangeC h2⟩
  · exact q1.elim
/-- over the signs of a text -/
def signsD (z : Str) : List D := z.cps.toList.map fun c => D.str ⟨#[c]⟩
def kSt (R : Items → LS → Prop) (x : P) (l : LS) : Prop := match x with
  | .d (.str z) => R ⟨signsD z, okAll⟩ l
  | _ => False
def iSt (we : WE) (σ : SS) (l : LS) (R : Items → LS → Prop) (E : EK) : Prop := we σ l (kSt R) E
theorem qi_str (hi : PI X tg e (iStr (cE X.K W we))) : QI X W tg e (iSt we) := PI.imp hi fun σ H R ⟨p, σd, l, Rd, Ed, hH, R0, hw, k, lk⟩ => by
  subst hH
  refine cE_ok R0 hw lk fun x l1 v p1 e1 R1 r1 q1 => ?_
  unfold kSt at q1
  split at q1
  · rename_i z
    cases r1
    refine ⟨z, rfl, k ⟨signsD z, okAll⟩ l1 _ p1 e1 R1 (fun p2 l2 e2 w2 c2 _ i => ?_) q1⟩
    refine ⟨fun hi => by show z.cps.size ≤ i; simpa [signsD] using hi, fun hi => by show i < z.cps.size; simpa [signsD] using hi, fun x H' d hd hy => ?_⟩
    obtain ⟨hH, c, hc, rfl⟩ := hy
    unfold signsD at hd
    rw [List.getElem?_map, Array.getElem?_toList, hc] at hd
    cases hd
    exact ⟨p2, hH.symm, Ext.refl _, w2, c2, .str _⟩
  · exact q1.elim
end

/-! ### for -/
def kTurn (tb : WS) (D : ED) (N : SS → LS → Prop) (σ : SS) (l : LS) : Prop := tb { D with nx := N, ct := N, bk := D.nx } σ l
def loopP (I : Items) (g : WG) (tb : WS) (D : ED) (σ : SS) (l : LS) : Prop := ∃ Iv : Nat → SS → LS → Prop, Iv 0 σ l ∧ (∀ i σ l, Iv i σ l → I.ok l) ∧
  (∀ i x σ l, I.xs[i]? = some x → Iv i σ l → g (.d x) σ l (kTurn tb D (Iv (i + 1)))) ∧ ∀ σ l, Iv I.xs.length σ l → D.nx σ l
def kFor (g : WG) (tb : WS) (D : ED) (σ : SS) (I : Items) (l : LS) : Prop := loopP I g tb D σ l
def wFor (wi : WI) (g : WG) (tb : WS) (D : ED) (σ : SS) (l : LS) : Prop := wi σ l (kFor g tb D σ) (exK D σ)
section
variable {X : Cx} {W : WX}
theorem qs_for {tg iter : Expr} {body : List Stmt} {wi : WI} {g : WG} {tb : WS} {pos : Pos} (hp : PassesOwn (model X.prog X.w) X.A X.env X.xe) (hc : X.calm = true) (hi : QI X W tg iter wi) (hg : QG X tg g) (hb : QSs X W body tb)
    (hs : ∀ x, foldedSetIterable iter X.env x = pure x := by intro _; rfl) : QS X W (.For tg iter body [] pos) (wFor wi g tb) := PS.imp (ps_for hp hc hi hg hb hs) fun D σ H ⟨p, σd, l, Dd, hH, R, hw, k⟩ => by
  subst hH
  refine cI_ok R hw k.link fun I l1 J p1 e1 R1 it q1 => ?_
  obtain ⟨Iv, h0, hok, hturn, hend⟩ := q1
  refine ⟨fun i m σ' H' => m = I.xs.length - i ∧ i ≤ I.xs.length ∧ ∃ p2 σd2 l2, p2.H = H' ∧ Ext p1 p2 ∧ Rel X.K p2 σ' σd2 l2 ∧ Iv i σd2 l2, ⟨_, rfl, Nat.zero_le _, p1, σd, l1, rfl, Ext.refl _, R1, h0⟩, ?_⟩
  rintro i m σ2 H2 ⟨rfl, hi, p2, σd2, l2, rfl, e2, R2, q2⟩
  obtain ⟨i1, i2, i3⟩ := it p2 l2 e2 R2.wf R2.ce (hok _ _ _ q2) i
  by_cases hlt : i < I.xs.length
  · refine .inr ⟨i2 hlt, fun σ' H' => ∃ p2 σd2 l2, p2.H = H' ∧ Ext p1 p2 ∧ Rel X.K p2 σ' σd2 l2 ∧ Iv (i + 1) σd2 l2, fun σ' H' hN => ⟨I.xs.length - (i + 1), by omega, rfl, hlt, hN⟩, fun x H' hy => ?_⟩
    obtain ⟨p3, rfl, e3, w3, c3, r3⟩ := i3 x H' _ (List.getElem?_eq_getElem hlt) hy
    have R3 := R2.ext e3 w3 c3
    refine cG_ok (d := .d _) R3 r3 (hturn i _ σd2 l2 (List.getElem?_eq_getElem hlt) q2) fun p4 σ4 σd4 l4 e4 R4 q4 => cS_ok R4 q4 ?_
    have E4 := ((e1.trans e2).trans e3).trans e4
    have F4 := (e2.trans e3).trans e4
    exact ⟨fun p' σ' σd' l' e R q => ⟨p', σd', l', rfl, F4.trans e, R, q⟩, fun p' a b c e => k.nx p' a b c (E4.trans e), fun p' σ' σd' l' e R q => ⟨p', σd', l', rfl, F4.trans e, R, q⟩,
      fun p' a b c e => k.rt p' a b c (E4.trans e), fun p' a b c d f g e => k.ex p' a b c d f g (E4.trans e)⟩
  · have : i = I.xs.length := by omega
    subst this
    exact .inl ⟨i1 (Nat.le_refl _), k.nx p2 σ2 σd2 l2 (e1.trans e2) R2 (hend _ _ q2)⟩
/-! ### while -/
def kLess (Iv : Nat → SS → LS → Prop) (m : Nat) (σ : SS) (l : LS) : Prop := ∃ m', m' < m ∧ Iv m' σ l
def kWh (tb : WS) (D : ED) (N : SS → LS → Prop) (σ : SS) (b : Bool) (l : LS) : Prop := if b = true then tb { D with nx := N, ct := N, bk := D.nx } σ l else D.nx σ l
def whileP (wt : WT) (tb : WS) (D : ED) (σ : SS) (l : LS) : Prop := ∃ Iv : Nat → SS → LS → Prop, (∃ m, Iv m σ l) ∧ ∀ m σ l, Iv m σ l → wt σ l (kWh tb D (kLess Iv m) σ) (exK D σ)
theorem qs_while {c : Expr} {body : List Stmt} {wt : WT} {tb : WS} {pos : Pos} (hp : PassesOwn (model X.prog X.w) X.A X.env X.xe) (hc : QT X W c wt) (hb : QSs X W body tb) : QS X W (.While c body [] pos) (whileP wt tb) := PS.imp (ps_while hp hc hb) fun D σ H ⟨p, σd, l, Dd, hH, R, hw, k⟩ => by
  subst hH
  obtain ⟨Iv, ⟨m0, h0⟩, turn⟩ := hw
  refine ⟨fun m σ' H' => ∃ p2 σd2 l2, p2.H = H' ∧ Ext p p2 ∧ Rel X.K p2 σ' σd2 l2 ∧ Iv m σd2 l2, ⟨m0, p, σd, l, rfl, Ext.refl _, R, h0⟩, ?_⟩
  rintro m σ2 H2 ⟨p2, σd2, l2, rfl, e2, R2, q2⟩
  refine cT_ok R2 (turn m σd2 l2 q2) (k.mono e2).link fun b l3 p3 e3 R3 q3 => ?_
  have E3 := e2.trans e3
  cases b with
  | true =>
    unfold kWh at q3
    rw [if_pos rfl] at q3 ⊢
    refine ⟨fun σ' H' => ∃ m', m' < m ∧ ∃ p2 σd2 l2, p2.H = H' ∧ Ext p p2 ∧ Rel X.K p2 σ' σd2 l2 ∧ Iv m' σd2 l2, fun σ' H' h => h, cS_ok R3 q3 ?_⟩
    exact ⟨fun p' σ' σd' l' e R ⟨m', hm, q⟩ => ⟨m', hm, p', σd', l', rfl, E3.trans e, R, q⟩, fun p' a b c e => k.nx p' a b c (E3.trans e), fun p' σ' σd' l' e R ⟨m', hm, q⟩ => ⟨m', hm, p', σd', l', rfl, E3.trans e, R, q⟩,
      fun p' a b c e => k.rt p' a b c (E3.trans e), fun p' a b c d f g e => k.ex p' a b c d f g (E3.trans e)⟩
  | false =>
    unfold kWh at q3
    rw [if_neg Bool.false_ne_true] at q3 ⊢
    exact k.nx p3 σ2 σd2 l3 E3 R3 q3
end

/-! ### list comprehensions -/
def wipeD (σ : SS) : List Nat → SS
  | [] => σ
  | v :: vs => (wipeD σ vs).set v none
theorem Slots.wipe {K : PySem.W.Frag} {p : Pt} {σ : St} {σd : SS} (h : Slots K p σd σ) : ∀ vs : List Nat, Slots K p (wipeD σd vs) (wipe σ vs)
  | [] => h
  | v :: vs => (Slots.wipe h vs).setNone
/-- I the invariant by the turn, what is made so far, the cells -/
def kEl (N : List D → LS → Prop) (acc : List D) (y : P) (l : LS) : Prop := match y with
  | .d y => N (acc ++ [y]) l
  | _ => False
def kTs (te : WE) (N : List D → LS → Prop) (acc : List D) (σ : SS) (b : Bool) (l : LS) : Prop := if b = true then te σ l (kEl N acc) noEx else N acc l
def kLcT (tt : WT) (te : WE) (vs : List Nat) (σ : SS) (N : List D → LS → Prop) (acc : List D) (σ2 : SS) (l : LS) : Prop := wipeD σ2 vs = wipeD σ vs ∧ tt σ2 l (kTs te N acc σ2) noEx
def lcP (I : Items) (g : WG) (tt : WT) (te : WE) (vs : List Nat) (f : Fresh) (σ : SS) (l : LS) (Q : P → LS → Prop) : Prop := ∃ Iv : Nat → List D → LS → Prop, Iv 0 [] l ∧ (∀ i acc l, Iv i acc l → I.ok l ∧ acc.length < sizeLine) ∧
  (∀ i x acc l, I.xs[i]? = some x → Iv i acc l → g (.d x) (wipeD σ vs) l (kLcT tt te vs σ (Iv (i + 1)) acc)) ∧ ∀ acc l, Iv I.xs.length acc l → freshL f acc l Q
def kLc (g : WG) (tt : WT) (te : WE) (vs : List Nat) (f : Fresh) (σ : SS) (Q : P → LS → Prop) (I : Items) (l : LS) : Prop := lcP I g tt te vs f σ l Q
def wLc (wi : WI) (g : WG) (tt : WT) (te : WE) (vs : List Nat) (f : Fresh) (σ : SS) (l : LS) (Q : P → LS → Prop) (E : EK) : Prop := wi σ l (kLc g tt te vs f σ Q) E
abbrev W0 : WX := fun _ _ _ _ => False
def QTs (X : Cx) (W : WX) (es : List Expr) (w : WT) : Prop := PTs X es (cT X.K W w)
def wYes (_ : SS) (l : LS) (Q : Bool → LS → Prop) (_ : EK) : Prop := Q true l
theorem qts_nil {X : Cx} {W : WX} : QTs X W [] wYes := by
  have h : PTs X [] tYes := pts_nil
  exact ⟨fun pins s σ H Q I ⟨p, σd, l, Qd, Ed, hH, R, hw, k, lk⟩ => h.run pins s σ H Q I (by subst hH; exact k true l p (Ext.refl p) R hw)⟩
theorem qts_one {X : Cx} {W : WX} {c : Expr} {w : WT} (h : QT X W c w) : QTs X W [c] w := pts_one h
/-! targets that store in some slots alone -/
def cGv (K : PySem.W.Frag) (vs : List Nat) (w : WG) : TG := fun v σ H Q => ∃ (p : Pt) (σd : SS) (l : LS) (d : P) (Qd : SS → LS → Prop), p.H = H ∧ Rel K p σ σd l ∧ RP K p d v ∧ w d σd l Qd ∧
  (∀ p' σ' σd' l', Ext p p' → Rel K p' σ' σd' l' → σ'.length = σ.length → (∀ i, i ∉ vs → σ'[i]? = σ[i]?) → Qd σd' l' → Q σ' p'.H)
def cGvs (K : PySem.W.Frag) (vs : List Nat) (w : WGs) : TGs := fun us σ H Q => ∃ (p : Pt) (σd : SS) (l : LS) (ds : List D) (Qd : SS → LS → Prop), p.H = H ∧ Rel K p σ σd l ∧ RDs K p ds us ∧ w ds σd l Qd ∧
  (∀ p' σ' σd' l', Ext p p' → Rel K p' σ' σd' l' → σ'.length = σ.length → (∀ i, i ∉ vs → σ'[i]? = σ[i]?) → Qd σd' l' → Q σ' p'.H)
def QGv (X : Cx) (vs : List Nat) (tg : Expr) (w : WG) : Prop := PG X tg (cGv X.K vs w)
def QGvs (X : Cx) (vs : List Nat) (ts : List Expr) (w : WGs) : Prop := PGs X ts (cGvs X.K vs w)
section
variable {X : Cx} {vs : List Nat} {e : Expr} {pos : Pos}
theorem qgv_name {i : Nat} {x : Str} (hv : i ∈ vs) (hN : X.N.Nodup) (hi : X.N[i]? = some x) (hx : Loc X.env.scope x) (hf : X.fn x = true ∨ X.env.scope.names.lookup x = some .local := by first | exact .inl rfl | exact .inr rfl | assumption) : QGv X vs (.Name x pos) (gN i) :=
  PG.imp (pg_name hN hi hx hf) fun v σ H Q ⟨p, σd, l, d, Qd, hH, R, r, hw, k⟩ => by
    subst hH
    exact k p _ _ l (Ext.refl p) (R.set r) (by simp) (fun j hj => List.getElem?_set_ne fun z => hj (by rw [← z]; exact hv)) hw
theorem qgvs_nil : QGvs X vs [] gE := PGs.imp pgs_nil fun vs σ H Q ⟨p, σd, l, ds, Qd, hH, R, r, hw, k⟩ => by
  subst hH
  cases r with
  | nil => exact ⟨rfl, k p _ _ l (Ext.refl p) R rfl (fun _ _ => rfl) hw⟩
  | cons _ _ => cases hw
theorem qgvs_cons {es : List Expr} {g : WG} {gs : WGs} (h1 : QGv X vs e g) (h2 : QGvs X vs es gs) (hs : (assignEach (e :: es) X.env).map (·.2) = assign e X.env :: (assignEach es X.env).map (·.2) := by rfl) : QGvs X vs (e :: es) (gC g gs) :=
  PGs.imp (pgs_cons h1 h2 hs) fun us σ H Q ⟨p, σd, l, ds, Qd, hH, R, r, hw, k⟩ => by
    subst hH
    cases r with
    | nil => cases hw
    | cons h r => exact ⟨_, _, rfl, p, σd, l, .d _, _, rfl, R, h, hw, fun p1 σ1 σd1 l1 e1 R1 z1 z2 q1 => ⟨p1, σd1, l1, _, _, rfl, R1, r.mono e1.hf, q1, fun p2 σ2 σd2 l2 e2 R2 y1 y2 q2 => k p2 σ2 σd2 l2 (e1.trans e2) R2 (y1.trans z1) (fun i hi => (y2 i hi).trans (z2 i hi)) q2⟩⟩
theorem qgv_tup {es : List Expr} {k : Nat} {gs : WGs} {n : Nat} (hc : X.calm = true) (h : QGvs X vs es gs) (hn : (assignEach es X.env).length = n := by rfl) (hst : (assignEach es X.env).findIdx? (·.1) = none := by rfl) : QGv X vs (.Tuple es k pos) (gT n gs) :=
  PG.imp (pg_tup hc h hn hst) fun v σ H Q ⟨p, σd, l, d, Qd, hH, R, r, hw, k⟩ => by
    subst hH
    cases d with
    | d d =>
      cases d with
      | tup ds =>
        cases r with
        | tup h1 h2 => exact ⟨_, _, rfl, h1.sq, h2.len.symm.trans hw.1, p, σd, l, ds, Qd, rfl, R, h2, hw.2, k⟩
      | _ => cases hw
    | _ => cases hw
end
theorem wipe_same {σ σ' : St} (hl : σ'.length = σ.length) : ∀ (vs ws : List Nat), (∀ i, i ∉ vs → i ∉ ws → σ'[i]? = σ[i]?) → (∀ i, i ∉ ws → (wipe σ' vs)[i]? = (wipe σ vs)[i]?)
  | [], ws, h => fun i hi => h i (by simp) hi
  | v :: vs, ws, h => fun i hi => by
    have ih := wipe_same hl vs (v :: ws) (fun i a b => by
      simp only [List.mem_cons, not_or] at b
      exact h i (by simp only [List.mem_cons, not_or]; exact ⟨b.1, a⟩) b.2)
    show ((wipe σ' vs).set v none)[i]? = ((wipe σ vs).set v none)[i]?
    have l1 : (wipe σ' vs).length = (wipe σ vs).length := by rw [wipe_length, wipe_length, hl]
    by_cases e : v = i
    · subst e
      by_cases hv : v < (wipe σ vs).length
      · rw [List.getElem?_set_self hv, List.getElem?_set_self (by rw [l1]; exact hv)]
      · rw [List.getElem?_eq_none (by rw [List.length_set, l1]; omega), List.getElem?_eq_none (by rw [List.length_set]; omega)]
    · rw [List.getElem?_set_ne e, List.getElem?_set_ne e]
      exact ih i (by simp only [List.mem_cons, not_or]; exact ⟨fun z => e z.symm, hi⟩)
theorem wipe_idem {σ σ' : St} {vs : List Nat} (hl : σ'.length = (wipe σ vs).length) (h : ∀ i, i ∉ vs → σ'[i]? = (wipe σ vs)[i]?) : wipe σ' vs = wipe σ vs := by
  apply List.ext_getElem?
  intro i
  have hl' : σ'.length = σ.length := by rw [hl, wipe_length]
  have h1 := wipe_same (σ := σ) (σ' := σ') hl' vs [] (fun i a _ => by
    rw [h i a]
    exact wipe_out a) i (by simp)
  exact h1
/-- the list that grows -/
structure Grow (K : PySem.W.Frag) (p1 p : Pt) (b0 : Addr) (acc : List D) (l : LS) : Prop where
  e : Ext p1 p
  w : WF p
  c : Cells K p l
  nF : ¬ p.F b0
  nr : b0 ∉ p.rho
  at_ : ∃ vs, p.H b0 = some (.lst vs) ∧ RDs K p acc vs
theorem Grow.start {K : PySem.W.Frag} {p1 : Pt} {b0 : Addr} {l : LS} (w : WF p1) (c : Cells K p1 l) (h : p1.H b0 = none) : Grow K p1 ⟨upd p1.H b0 (.lst []), p1.rho, p1.F⟩ b0 [] l := by
  have e : Ext p1 ⟨upd p1.H b0 (.lst []), p1.rho, p1.F⟩ := ⟨⟨[], by simp⟩, fun _ z => .inl z, fun _ z => z, fun _ z => .inl z, fun b o z _ => by
    show upd _ _ _ _ = _
    rw [upd_ne (ne_of_none z h)]; exact z, fun b o z _ => by
    show upd _ _ _ _ = _
    rw [upd_ne (ne_of_none z h)]; exact z, fun b o z => upd_some z⟩
  refine ⟨e, ⟨w.nd, fun a m => ?_, fun a m => ?_⟩, ⟨c.1, fun i d q => ?_⟩, w.nF h, w.nrho h, [], upd_same, .nil⟩
  · obtain ⟨o, z⟩ := w.hs a m
    exact upd_some z
  · obtain ⟨o, z⟩ := w.fs a m
    exact upd_some z
  · obtain ⟨b, h1, h2⟩ := c.2 i d q
    exact ⟨b, h1, h2.mono e (by show upd _ _ _ _ = _; rw [upd_ne fun z => w.nrho h (by rw [← z]; exact List.mem_of_getElem? h1)]) fun z => z⟩
theorem Grow.go {K : PySem.W.Frag} {p1 p p' : Pt} {b0 : Addr} {acc : List D} {l l' : LS} (g : Grow K p1 p b0 acc l) (e : Ext p p') (w : WF p') (c : Cells K p' l') : Grow K p1 p' b0 acc l' := by
  obtain ⟨vs, h1, h2⟩ := g.at_
  refine ⟨g.e.trans e, w, c, fun z => ?_, fun z => ?_, vs, e.keep _ _ h1 g.nr, h2.mono e.hf⟩
  · rcases e.fn b0 z with z | z | z
    · exact g.nF z
    · rw [h1] at z; cases z
    · exact g.nr z
  · rcases e.new b0 z with z | z
    · exact g.nr z
    · rw [h1] at z; cases z
theorem Grow.add {K : PySem.W.Frag} {p1 p : Pt} {b0 : Addr} {acc : List QL.D} {l : LS} {y : QL.D} {v : V} (g : Grow K p1 p b0 acc l) (n1 : p1.H b0 = none) (r : RD K p y v) : ∃ vs, p.H b0 = some (.lst vs) ∧ vs.length = acc.length ∧
    Grow K p1 ⟨upd p.H b0 (.lst (vs ++ [v])), p.rho, p.F⟩ b0 (acc ++ [y]) l := by
  obtain ⟨vs, h1, h2⟩ := g.at_
  have hf : HF p ⟨upd p.H b0 (.lst (vs ++ [v])), p.rho, p.F⟩ := ⟨fun _ z => z, fun b o z f => by
    show upd _ _ _ _ = _
    rw [upd_ne fun q => g.nF (by rw [← q]; exact f)]; exact z⟩
  refine ⟨vs, h1, h2.len.symm, ⟨g.e.pre, g.e.new, g.e.fm, g.e.fn, fun b o z n => ?_, fun b o z n => ?_, fun b o z => ?_⟩, ⟨g.w.nd, fun a m => ?_, fun a m => ?_⟩, ⟨g.c.1, fun i d q => ?_⟩, g.nF, g.nr, _, upd_same, (h2.append (.cons r .nil)).mono hf⟩
  · show upd _ _ _ _ = _
    rw [upd_ne (ne_of_none z n1)]; exact g.e.keep b o z n
  · show upd _ _ _ _ = _
    rw [upd_ne (ne_of_none z n1)]; exact g.e.keepF b o z n
  · obtain ⟨o', z'⟩ := g.e.there b o z
    exact upd_some z'
  · obtain ⟨o, z⟩ := g.w.hs a m
    exact upd_some z
  · obtain ⟨o, z⟩ := g.w.fs a m
    exact upd_some z
  · obtain ⟨b, q1, q2⟩ := g.c.2 i d q
    have nb : b ≠ b0 := fun z => g.nr (by rw [← z]; exact List.mem_of_getElem? q1)
    refine ⟨b, q1, ?_⟩
    exact q2.hf hf (by show upd _ _ _ _ = _; rw [upd_ne nb]) fun z => z
theorem Grow.end_ {K : PySem.W.Frag} {p1 p : Pt} {b0 : Addr} {acc : List QL.D} {l : LS} {f : Fresh} {Qd : P → LS → Prop} {Q : VK} (g : Grow K p1 p b0 acc l) (n1 : p1.H b0 = none) (q : freshL f acc l Qd)
    (k : ∀ d l' v p', Ext p1 p' → WF p' → Cells K p' l' → RP K p' d v → Qd d l' → Q v p'.H) : Q (.ref b0) p.H := by
  obtain ⟨vs, h1, h2⟩ := g.at_
  cases f with
  | frz =>
    have hf : HF p ⟨p.H, p.rho, fun b => p.F b ∨ b = b0⟩ := ⟨fun _ z => .inl z, fun b o z f => z⟩
    refine k (.d (.lst acc)) l (.ref b0) ⟨p.H, p.rho, fun b => p.F b ∨ b = b0⟩ ⟨g.e.pre, g.e.new, fun _ z => .inl (g.e.fm _ z), fun a z => ?_, g.e.keep, g.e.keepF, g.e.there⟩ ⟨g.w.nd, g.w.hs, fun a m => ?_⟩ ⟨g.c.1, fun i d q => ?_⟩ (show RP K ⟨p.H, p.rho, fun b => p.F b ∨ b = b0⟩ (.d (.lst acc)) (.ref b0) from RD.lst ⟨Or.inr rfl, h1⟩ (h2.mono hf)) q
    · rcases z with z | z
      · exact g.e.fn a z
      · exact .inr (.inl (by rw [z]; exact n1))
    · rcases m with m | m
      · exact g.w.fs a m
      · exact ⟨_, by rw [m]; exact h1⟩
    · obtain ⟨b, q1, q2⟩ := g.c.2 i d q
      have nb : b ≠ b0 := fun z => g.nr (by rw [← z]; exact List.mem_of_getElem? q1)
      refine ⟨b, q1, ?_⟩
      exact q2.hf hf rfl fun z => z.elim id fun w => absurd w nb
  | cell =>
    have hf : HF p ⟨p.H, p.rho ++ [b0], p.F⟩ := ⟨fun _ z => z, fun b o z f => z⟩
    obtain ⟨t, ht⟩ := g.e.pre
    have q : Qd (.loc l.length) (l ++ [.lst acc]) := q
    refine k (.loc l.length) (l ++ [.lst acc]) (.ref b0) ⟨p.H, p.rho ++ [b0], p.F⟩ ⟨⟨t ++ [b0], by show p.rho ++ [b0] = _; rw [ht, List.append_assoc]⟩, fun a z => ?_, g.e.fm, g.e.fn, g.e.keep, g.e.keepF, g.e.there⟩ ⟨?_, fun a m => ?_, g.w.fs⟩ ⟨by simp [g.c.1], fun i d q => ?_⟩
      (show RP K ⟨p.H, p.rho ++ [b0], p.F⟩ (.loc l.length) (.ref b0) from ⟨b0, by
        show (p.rho ++ [b0])[l.length]? = some b0
        rw [g.c.1, List.getElem?_append_right (Nat.le_refl _)]
        simp, rfl⟩) q
    · rcases List.mem_append.mp z with z | z
      · exact g.e.new a z
      · simp at z
        exact .inr (by rw [z]; exact n1)
    · show (p.rho ++ [b0]).Nodup
      rw [List.nodup_append]
      refine ⟨g.w.nd, by simp, fun x hx y hy e => ?_⟩
      simp at hy
      subst hy; subst e
      exact g.nr hx
    · rcases List.mem_append.mp m with m | m
      · exact g.w.hs a m
      · simp at m
        exact ⟨_, by rw [m]; exact h1⟩
    · by_cases hi : i < l.length
      · rw [List.getElem?_append_left hi] at q
        obtain ⟨b, q1, q2⟩ := g.c.2 i d q
        refine ⟨b, ?_, ?_⟩
        · show (p.rho ++ [b0])[i]? = _
          rw [List.getElem?_append_left (by rw [← g.c.1]; exact hi)]
          exact q1
        · exact q2.hf hf rfl fun z => z
      · have hi' : i = l.length := by
          have := (List.getElem?_eq_some_iff.mp q).1
          simp at this
          omega
        subst hi'
        rw [List.getElem?_append_right (Nat.le_refl _)] at q
        simp at q
        subst q
        refine ⟨b0, ?_, g.nF, vs, h1, h2.mono hf⟩
        show (p.rho ++ [b0])[l.length]? = _
        rw [g.c.1, List.getElem?_append_right (Nat.le_refl _)]
        simp
section
variable {X : Cx} {W : WX} {elt tg iter : Expr} {ifs : List Expr} {scope : Scope} {own : List (Str × Nat)} {pos : Pos} {wi : WI} {g : WG} {tt : WT} {te : WE}
theorem lc_ok {f : Fresh} {σ : St} {H : Hp} {Q : VK} (h : cE X.K W (wLc wi g tt te (own.map (·.2)) f) σ H Q) : tLc (cI X.K W wi) (cGv X.K (own.map (·.2)) g) (cT X.K W0 tt) (cE X.K W0 te) (own.map (·.2)) σ H Q := by
  obtain ⟨p, σd, l, Qd, Ed, hH, R, hw, k, lk⟩ := h
  subst hH
  refine cI_ok R hw lk fun I l1 J p1 e1 R1 it q1 D hD => ?_
  obtain ⟨Iv, h0, hok, hturn, hend⟩ := q1
  refine ⟨fun i m H' => m = I.xs.length - i ∧ i ≤ I.xs.length ∧ ∃ p2 l2 acc, p2.H = H' ∧ Grow X.K p1 p2 D acc l2 ∧ Iv i acc l2, ⟨_, rfl, Nat.zero_le _, _, l1, [], rfl, Grow.start R1.wf R1.ce hD, h0⟩, ?_⟩
  rintro i m H2 ⟨rfl, hi, p2, l2, acc, rfl, G2, q2⟩
  obtain ⟨ok2, sz2⟩ := hok _ _ _ q2
  obtain ⟨i1, i2, i3⟩ := it p2 l2 G2.e G2.w G2.c ok2 i
  by_cases hlt : i < I.xs.length
  · refine .inr ⟨i2 hlt, fun H' => ∃ p2 l2 acc, p2.H = H' ∧ Grow X.K p1 p2 D acc l2 ∧ Iv (i + 1) acc l2, fun H' hN => ⟨I.xs.length - (i + 1), by omega, rfl, hlt, hN⟩, fun x H' hy => ?_⟩
    obtain ⟨p3, rfl, e3, w3, c3, r3⟩ := i3 x H' _ (List.getElem?_eq_getElem hlt) hy
    have G3 := G2.go e3 w3 c3
    have R3 : Rel X.K p3 (wipe σ (own.map (·.2))) (wipeD σd (own.map (·.2))) l2 := ⟨w3, ((R1.sl.mono G3.e).wipe _), c3⟩
    refine ⟨p3, _, l2, .d _, _, rfl, R3, r3, hturn i _ acc l2 (List.getElem?_eq_getElem hlt) q2, fun p4 σ4 σd4 l4 e4 R4 z1 z2 q4 => ⟨wipe_idem z1 z2, ?_⟩⟩
    have G4 := G3.go e4 R4.wf R4.ce
    refine cT_ok R4 q4.2 LinkE.never fun b l5 p5 e5 R5 q5 => ?_
    have G5 := G4.go e5 R5.wf R5.ce
    cases b with
    | true =>
      unfold kTs at q5
      rw [if_pos rfl] at q5 ⊢
      refine cE_ok R5 q5 LinkE.never fun y l6 v p6 e6 R6 r6 q6 => ?_
      have G6 := G5.go e6 R6.wf R6.ce
      unfold kEl at q6
      split at q6
      · rename_i y
        obtain ⟨vs, h1, h2, G7⟩ := G6.add hD r6
        exact ⟨vs, h1, by rw [h2]; exact sz2, _, l6, _, rfl, G7, q6⟩
      · exact q6.elim
    | false =>
      unfold kTs at q5
      rw [if_neg Bool.false_ne_true] at q5 ⊢
      exact ⟨p5, l5, acc, rfl, G5, q5⟩
  · have : i = I.xs.length := by omega
    subst this
    exact .inl ⟨i1 (Nat.le_refl _), G2.end_ hD (hend _ _ q2) fun d l' v p' e' w' c' r' q' => k d l' v p' (e1.trans e') (R1.ext e' w' c') r' q'⟩
theorem qe_lc {f : Fresh} (hc : X.calm = true) (hN : X.N.Nodup) (hi : QI X W tg iter wi) (ok : BlkOk X.N X.env.scope scope own)
    (hg : ∀ (s : Shared) (H : Hp) (C : Addr) (cl : List (Str × Addr)) (fp : List Addr), QGv (X.blk s H scope (compEnvC scope cl C X.env) fp) (own.map (·.2)) tg g) (ht : ∀ (s : Shared) (H : Hp) (C : Addr) (cl : List (Str × Addr)) (fp : List Addr), QTs (X.blk s H scope (compEnvC scope cl C X.env) fp) W0 ifs tt)
    (he : ∀ (s : Shared) (H : Hp) (C : Addr) (cl : List (Str × Addr)) (fp : List Addr), QE (X.blk s H scope (compEnvC scope cl C X.env) fp) W0 elt te) (hs : ∀ x, foldedSetIterable iter X.env x = pure x := by intro _; rfl) :
    QE X W (.ListComp elt [⟨tg, iter, ifs, 0⟩] scope pos) (wLc wi g tt te (own.map (·.2)) f) :=
  PE.imp (pe_lc (own := own) (g := cGv X.K (own.map fun q : Str × Nat => q.2) g) (tt := cT X.K W0 tt) (te := cE X.K W0 te) hc hN hi ok hg ht he hs) fun σ H Q h => lc_ok h
theorem qs_setLc {f : Fresh} {i : Nat} {y : Str} {py spos : Pos} (hc : X.calm = true) (hN : X.N.Nodup) (hy : X.N[i]? = some y) (hyl : X.env.scope.names.lookup y = some .local)
    (hsw : swapsWith (.ListComp elt [⟨tg, iter, ifs, 0⟩] scope pos) (some (.Name y py)) spos.line X.env = pure true) (hi : QI X W tg iter wi) (ok : BlkOk X.N X.env.scope scope own)
    (hg : ∀ (s : Shared) (H : Hp) (C : Addr) (cl : List (Str × Addr)) (fp : List Addr), QGv (X.blk s H scope (compEnvC scope cl C X.env) fp) (own.map (·.2)) tg g) (ht : ∀ (s : Shared) (H : Hp) (C : Addr) (cl : List (Str × Addr)) (fp : List Addr), QTs (X.blk s H scope (compEnvC scope cl C X.env) fp) W0 ifs tt)
    (he : ∀ (s : Shared) (H : Hp) (C : Addr) (cl : List (Str × Addr)) (fp : List Addr), QE (X.blk s H scope (compEnvC scope cl C X.env) fp) W0 elt te) (hs : ∀ x, foldedSetIterable iter X.env x = pure x := by intro _; rfl) :
    QS X W (.Assign [.Name y py] (.ListComp elt [⟨tg, iter, ifs, 0⟩] scope pos) spos) (wAsg (wLc wi g tt te (own.map (·.2)) f) (gN i)) :=
  PS.imp (ps_setLc (own := own) (g := cGv X.K (own.map fun q : Str × Nat => q.2) g) (tt := cT X.K W0 tt) (te := cE X.K W0 te) hc hN hy hyl hsw hi ok hg ht he hs) fun D σ H ⟨p, σd, l, Dd, hH, R, hw, k⟩ => by
    subst hH
    exact lc_ok (X := X) (W := W) (cE_ok R hw k.link fun x l1 v p1 e1 R1 r1 q1 => k.nx p1 _ _ l1 e1 (R1.set r1) q1)
end
/-! ### defs -/
abbrev FS := List P → LS → (P → LS → Prop) → EK → Prop
/-- a def's promise over plain data: p has the arguments' cells alone -/
def spQ (K : PySem.W.Frag) (n : Nat) (fs : FS) : Sp := fun vs H Q E => ∃ (p : Pt) (ds : List P) (l : LS) (Qd : P → LS → Prop) (Ed : EK), p.H = H ∧ WF p ∧ Cells K p l ∧ RPs K p ds vs ∧ ds.length = n ∧ fs ds l Qd Ed ∧
  (∀ d l' v p', Ext p p' → WF p' → Cells K p' l' → RP K p' d v → Qd d l' → Q v p'.H) ∧ (∀ ex l' cls dd p', Ext p p' → WF p' → Cells K p' l' → XR K p' ex cls dd → Ed ex l' → E cls dd p'.H)
/-- what comes back: the arguments' cells, then the cell of a new list that is handed back -/
def retN (n : Nat) (Qd : P → LS → Prop) (r : P) (l : LS) : Prop := match r with
  | .d x => Qd (.d x) (l.take n)
  | .loc j => if j < n then Qd (.loc j) (l.take n) else match l[j]? with
    | some c => Qd (.loc n) (l.take n ++ [c])
    | none => False
  | .exc _ _ _ _ => False
def kEnd (n : Nat) (Qd : P → LS → Prop) (_ : SS) (l : LS) : Prop := retN n Qd (.d .non) l
def kNever (_ : SS) (_ : LS) : Prop := False
def kEx (Ed : EK) (ex : Ex) (_ : SS) (l : LS) : Prop := Ed ex l
theorem cut_ok {K : PySem.W.Frag} {p p' : Pt} {l : LS} (e : Ext p p') (w : WF p') (c : Cells K p' l) : ∃ p2 : Pt, p2.H = p'.H ∧ p2.F = p'.F ∧ p2.rho = p.rho ∧ Ext p p2 ∧ WF p2 ∧ Cells K p2 (l.take p.rho.length) ∧ HF p' p2 := by
  obtain ⟨t, ht⟩ := e.pre
  refine ⟨⟨p'.H, p.rho, p'.F⟩, rfl, rfl, rfl, ⟨⟨[], by simp⟩, fun _ z => .inl z, e.fm, e.fn, e.keep, e.keepF, e.there⟩, ⟨?_, fun a m => w.hs a (by rw [ht]; exact List.mem_append_left _ m), w.fs⟩, ⟨?_, fun i d q => ?_⟩, ⟨fun _ z => z, fun _ _ z _ => z⟩⟩
  · have nd := w.nd
    rw [ht, List.nodup_append] at nd
    exact nd.1
  · rw [List.length_take, c.1, ht, List.length_append]
    show min p.rho.length (p.rho.length + t.length) = p.rho.length
    omega
  · have hi : i < p.rho.length := by
      have := (List.getElem?_eq_some_iff.mp q).1
      rw [List.length_take] at this
      omega
    rw [List.getElem?_take_of_lt hi] at q
    obtain ⟨a, h1, h2⟩ := c.2 i d q
    rw [ht, List.getElem?_append_left hi] at h1
    refine ⟨a, h1, ?_⟩
    exact h2.hf ⟨fun _ z => z, fun _ _ z _ => z⟩ rfl fun z => z
theorem ret_ok {K : PySem.W.Frag} {p p' : Pt} {l : LS} {r : P} {v : V} {n : Nat} {Qd : P → LS → Prop} {Q : VK} (e : Ext p p') (w : WF p') (c : Cells K p' l) (rr : RP K p' r v) (hn : p.rho.length = n) (h : retN n Qd r l)
    (k : ∀ d l' v p', Ext p p' → WF p' → Cells K p' l' → RP K p' d v → Qd d l' → Q v p'.H) : Q v p'.H := by
  subst hn
  obtain ⟨p2, hH, hF, hr, e2, w2, c2, hf⟩ := cut_ok e w c
  unfold retN at h
  split at h
  · rename_i x
    have r2 : RP K p2 (.d x) v := RD.mono hf rr
    rw [← hH]
    exact k _ _ _ _ e2 w2 c2 r2 h
  · rename_i j
    obtain ⟨a, h1, rfl⟩ := rr
    obtain ⟨t, ht⟩ := e.pre
    split at h
    · rename_i hj
      rw [← hH]
      refine k (.loc j) _ _ _ e2 w2 c2 (show RP K p2 (.loc j) (.ref a) from ⟨a, ?_, rfl⟩) h
      rw [hr]
      rw [ht, List.getElem?_append_left hj] at h1
      exact h1
    · rename_i hj
      split at h
      · rename_i cl hcl
        obtain ⟨b, h2, h3⟩ := c.2 j cl hcl
        rw [h1] at h2
        cases h2
        have na : a ∉ p.rho := fun m => by
          obtain ⟨i, hi1⟩ := List.getElem?_of_mem m
          have hi2 : i < p.rho.length := (List.getElem?_eq_some_iff.mp hi1).1
          have hi3 : p'.rho[i]? = some a := by rw [ht, List.getElem?_append_left hi2]; exact hi1
          have := nodup_at w.nd hi3 h1
          omega
        have hf3 : HF p' ⟨p'.H, p.rho ++ [a], p'.F⟩ := ⟨fun _ z => z, fun _ _ z _ => z⟩
        have pa : p.H a = none := by
          rcases e.new a (List.mem_of_getElem? h1) with z | z
          · exact absurd z na
          · exact z
        refine k (.loc p.rho.length) (l.take p.rho.length ++ [cl]) _ ⟨p'.H, p.rho ++ [a], p'.F⟩ ⟨⟨[a], rfl⟩, fun b z => ?_, e.fm, e.fn, e.keep, e.keepF, e.there⟩ ⟨?_, fun b m => ?_, w.fs⟩ ⟨?_, fun i d q => ?_⟩ (show RP K ⟨p'.H, p.rho ++ [a], p'.F⟩ (.loc p.rho.length) (.ref a) from ⟨a, by
          show (p.rho ++ [a])[p.rho.length]? = _
          rw [List.getElem?_append_right (Nat.le_refl _)]
          simp, rfl⟩) h
        · rcases List.mem_append.mp z with z | z
          · exact .inl z
          · simp at z; exact .inr (by rw [z]; exact pa)
        · show (p.rho ++ [a]).Nodup
          rw [List.nodup_append]
          refine ⟨?_, by simp, fun x hx y hy q => ?_⟩
          · have nd := w.nd
            rw [ht, List.nodup_append] at nd
            exact nd.1
          · simp at hy
            subst hy; subst q
            exact na hx
        · rcases List.mem_append.mp m with m | m
          · exact w.hs b (by rw [ht]; exact List.mem_append_left _ m)
          · simp at m
            exact w.hs b (by rw [m]; exact List.mem_of_getElem? h1)
        · have := c2.1
          rw [hr] at this
          simp [this]
        · by_cases hi : i < p.rho.length
          · have hi' : i < (l.take p.rho.length).length := by rw [c2.1, hr]; exact hi
            rw [List.getElem?_append_left hi'] at q
            obtain ⟨b, q1, q2⟩ := c2.2 i d q
            rw [hr] at q1
            refine ⟨b, ?_, ?_⟩
            · show (p.rho ++ [a])[i]? = _
              rw [List.getElem?_append_left hi]; exact q1
            · exact q2.hf ⟨fun _ z => by show p'.F _; rw [← hF]; exact z, fun b o z _ => by show p'.H b = _; rw [← hH]; exact z⟩ (by show p'.H b = _; rw [hH]) fun z => by rw [hF]; exact z
          · have hl : (l.take p.rho.length).length = p.rho.length := by rw [c2.1, hr]
            have hi' : i = p.rho.length := by
              have := (List.getElem?_eq_some_iff.mp q).1
              simp only [List.length_append, hl, List.length_singleton] at this
              omega
            subst hi'
            rw [List.getElem?_append_right (by rw [hl]; exact Nat.le_refl _), hl] at q
            simp at q
            subst q
            refine ⟨a, ?_, ?_⟩
            · show (p.rho ++ [a])[p.rho.length]? = _
              rw [List.getElem?_append_right (Nat.le_refl _)]
              simp
            · exact h3.hf hf3 rfl fun z => z
      · exact h.elim
  · exact h.elim
/-- the names at the entry -/
def startD (N : List Str) (ds : List P) : SS := ds.map some ++ List.replicate (N.length - ds.length) none
theorem start_sl {K : PySem.W.Frag} {p : Pt} {N : List Str} {ds : List P} {vs : List V} (h : RPs K p ds vs) : Slots K p (startD N ds) (L2.start N vs) := by
  have hl : ds.length = vs.length := Paired.length h
  refine ⟨by simp [startD, L2.start, hl], fun i d q => ?_⟩
  unfold startD at q
  by_cases hi : i < ds.length
  · rw [List.getElem?_append_left (by simpa using hi), List.getElem?_map] at q
    cases e : ds[i]? with
    | none => rw [e] at q; cases q
    | some d' =>
      rw [e] at q
      cases q
      have : ∀ {ds : List P} {vs : List V} {i : Nat}, RPs K p ds vs → ds[i]? = some d → ∃ v, vs[i]? = some v ∧ RP K p d v := by
        intro ds vs i h
        induction h generalizing i with
        | nil => intro e; simp at e
        | cons r _ ih =>
          intro e
          cases i with
          | zero => simp at e; subst e; exact ⟨_, rfl, r⟩
          | succ i => simpa using ih (by simpa using e)
      obtain ⟨v, g1, g2⟩ := this h e
      refine ⟨v, ?_, g2⟩
      unfold L2.start
      rw [List.getElem?_append_left (by simpa using (List.getElem?_eq_some_iff.mp g1).1), List.getElem?_map, g1]
      rfl
  · rw [List.getElem?_append_right (by simpa using hi), List.getElem?_replicate] at q
    split at q <;> cases q
section
variable {P : Program} {w : World} {K : PySem.W.Frag} {mg : Str → Option Value} {base : Heap}
open PyProof.Rows (envOfC) in
/-- THE RULE for a def -/
theorem fun_q {x qual : Str} {st : Stmt} {f : Addr} {fd : FuncData} {N ps : List Str} {k : Nat} {fs : FS} {wb : WS} (F : Fun K x qual st f fd) (S : FnScope N ps (defScope st)) (n : Nat) (hn : n = ps.length)
    (hbody : ∀ (cdv : Value) (A : Around) (outer : List Env) (s : Shared) (H : Hp) (E : XK), Room k (A.deeper (envOfC qual (defScope st) s.heap.objs.size f cdv)) →
      Takes (cxOf (L2.CX P w) P w K mg base N qual (defScope st) f cdv A outer s H E) (fun cls d _ H => E cls d H) →
      QSs (cxOf (L2.CX P w) P w K mg base N qual (defScope st) f cdv A outer s H E) (fun cls d _ H => E cls d H) (defBody st) wb)
    (hw : ∀ ds l Qd Ed, ds.length = n → fs ds l Qd Ed → wb { nx := kEnd l.length Qd, rt := retN l.length Qd, bk := kNever, ct := kNever, ex := kEx Ed } (startD N ds) l) :
    FnOk P w K mg base (L2.CX P w) (k + 1) f fd ps (spQ K n fs) := by
  refine F.okX S (fun vs H Q E h => ?_) fun cdv A outer s H vs Q E hr h => ⟨_, hbody cdv A outer s H E hr (takes_of rfl rfl rfl rfl), ?_⟩
  · obtain ⟨p, ds, l, Qd, Ed, _, _, _, r, e, _⟩ := h
    rw [← Paired.length r, e, hn]
  · obtain ⟨p, ds, l, Qd, Ed, rfl, wf, ce, r, e, hfs, kk, kx⟩ := h
    refine cS_ok ⟨wf, start_sl r, ce⟩ (hw ds l Qd Ed e hfs) ⟨fun p' σ' σd' l' e' R q => ?_, fun _ _ _ _ _ _ q => q.elim, fun _ _ _ _ _ _ q => q.elim, fun p' d v l' e' w' c' r' q => ?_, fun p' σ' σd' l' ex cls dd e' R x q => ?_⟩
    · exact ret_ok (r := .d .non) e' R.wf R.ce RD.non ce.1.symm q kk
    · exact ret_ok e' w' c' r' ce.1.symm q kk
    · exact kx ex l' cls dd p' e' R.wf R.ce x q
end
end QL
set_option Elab.async false
set_option linter.all false
set_option maxRecDepth 100000
set_option maxHeartbeats 4000000
/-! QL6: calls of own defs. -/
namespace QL
open PySem L2

def locsOf : List P → List Nat
  | [] => []
  | .loc n :: r => n :: locsOf r
  | _ :: r => locsOf r
def relab : List P → Nat → List P
  | [], _ => []
  | .loc _ :: r, i => .loc i :: relab r (i + 1)
  | x :: r, i => x :: relab r i
def pick (l : LS) : List Nat → Option LS
  | [] => some []
  | n :: ns => match l[n]?, pick l ns with
    | some c, some cs => some (c :: cs)
    | _, _ => none
def wback : LS → List Nat → LS → LS
  | l, n :: ns, c :: cs => wback (l.set n c) ns cs
  | l, _, _ => l
def callB (ns : List Nat) (l : LS) (Q : P → LS → Prop) (r : P) (cs : LS) : Prop := match r with
  | .d x => Q (.d x) (wback l ns cs)
  | .loc j => if j < ns.length then Q (.loc (ns.getD j 0)) (wback l ns cs) else if j = ns.length then (match cs[ns.length]? with
    | some c => Q (.loc l.length) (wback l ns cs ++ [c])
    | none => False) else False
  | .exc _ _ _ _ => False
def callE (ns : List Nat) (l : LS) (E : EK) (ex : Ex) (cs : LS) : Prop := E ex (wback l ns cs)
def callP (fs : FS) (vs : List P) (l : LS) (Q : P → LS → Prop) (E : EK) : Prop := match pick l (locsOf vs) with
  | some cs => (locsOf vs).Nodup ∧ fs (relab vs 0) cs (callB (locsOf vs) l Q) (callE (locsOf vs) l E)
  | none => False

theorem wback_len : ∀ (ns : List Nat) (l cs : LS), (wback l ns cs).length = l.length
  | [], l, cs => by cases cs <;> rfl
  | n :: ns, l, [] => rfl
  | n :: ns, l, c :: cs => by
    show (wback (l.set n c) ns cs).length = _
    rw [wback_len ns, List.length_set]
theorem wback_out : ∀ (ns : List Nat) (l cs : LS) (i : Nat), i ∉ ns → (wback l ns cs)[i]? = l[i]?
  | [], l, cs, i, _ => by cases cs <;> rfl
  | n :: ns, l, [], i, _ => rfl
  | n :: ns, l, c :: cs, i, h => by
    simp only [List.mem_cons, not_or] at h
    show (wback (l.set n c) ns cs)[i]? = _
    rw [wback_out ns _ cs i h.2, List.getElem?_set_ne fun e => h.1 e.symm]
theorem wback_in : ∀ (ns : List Nat) (l cs : LS) (i j : Nat) (c : Cell), ns.Nodup → ns[j]? = some i → i < l.length → cs[j]? = some c → (wback l ns cs)[i]? = some c
  | [], _, _, _, _, _, _, h, _, _ => by simp at h
  | n :: ns, l, [], i, j, c, _, _, _, h => by simp at h
  | n :: ns, l, d :: cs, i, 0, c, nd, h, hi, hc => by
    simp at h hc
    subst h; subst hc
    show (wback (l.set n d) ns cs)[n]? = _
    rw [wback_out ns _ cs n (List.nodup_cons.mp nd).1, List.getElem?_set_self hi]
  | n :: ns, l, d :: cs, i, j + 1, c, nd, h, hi, hc => by
    show (wback (l.set n d) ns cs)[i]? = _
    exact wback_in ns _ cs i j c (List.nodup_cons.mp nd).2 (by simpa using h) (by simpa using hi) (by simpa using hc)
theorem pick_get : ∀ {ns : List Nat} {l cs : LS}, pick l ns = some cs → cs.length = ns.length ∧ ∀ (j n : Nat), ns[j]? = some n → ∃ c, l[n]? = some c ∧ cs[j]? = some c
  | [], l, cs, h => by
    cases h
    exact ⟨rfl, fun j n h => by simp at h⟩
  | n :: ns, l, cs, h => by
    unfold pick at h
    split at h
    · rename_i c cs' h1 h2
      cases h
      obtain ⟨g1, g2⟩ := pick_get h2
      refine ⟨by simp [g1], fun j m hj => ?_⟩
      cases j with
      | zero => simp at hj; subst hj; exact ⟨c, h1, rfl⟩
      | succ j => simpa using g2 j m (by simpa using hj)
    · cases h
section
variable {K : PySem.W.Frag} {p : Pt} {l : LS}
/-- the addresses of some cells -/
def addrs (p : Pt) (ns : List Nat) : List Addr := ns.map fun n => p.rho.getD n 0
theorem addrs_get {ns : List Nat} {j n : Nat} {a : Addr} (h : ns[j]? = some n) (h2 : p.rho[n]? = some a) : (addrs p ns)[j]? = some a := by
  unfold addrs
  rw [List.getElem?_map, h]
  simp [List.getD, h2]
theorem relab_ok {ns : List Nat} : ∀ {vs : List P} {us : List V} {i : Nat} {t : List Nat}, RPs K p vs us → ns = t ++ locsOf vs → t.length = i → RPs K ⟨p.H, addrs p ns, p.F⟩ (relab vs i) us
  | [], _, _, _, .nil, _, _ => .nil
  | .d x :: r, _, i, t, .cons h q, e, hi => .cons (show RP K ⟨p.H, addrs p ns, p.F⟩ (.d x) _ from RD.mono (p := p) (p' := ⟨p.H, addrs p ns, p.F⟩) ⟨fun _ z => z, fun _ _ z _ => z⟩ h) (relab_ok q e hi)
  | .exc a c dd ex :: r, _, i, t, .cons h q, e, hi => .cons (show RP K ⟨p.H, addrs p ns, p.F⟩ (.exc a c dd ex) _ from ⟨h.1, XR.mono (p := p) (p' := ⟨p.H, addrs p ns, p.F⟩) ⟨fun _ z => z, fun _ _ z _ => z⟩ h.2⟩) (relab_ok q e hi)
  | .loc n :: r, _, i, t, .cons h q, e, hi => by
    obtain ⟨a, h1, rfl⟩ := h
    refine .cons (show RP K ⟨p.H, addrs p ns, p.F⟩ (.loc i) _ from ⟨a, ?_, rfl⟩) (relab_ok (t := t ++ [n]) q (by rw [e]; simp [locsOf]) (by simp [hi]))
    refine addrs_get (n := n) ?_ h1
    rw [e, List.getElem?_append_right (by omega)]
    simp [hi, locsOf]
theorem call_ok {fs : FS} {n : Nat} {vs : List P} {us : List V} {Qd : P → LS → Prop} {Ed : EK} {Q : VK} {E : XK} (w : WF p) (ce : Cells K p l) (r : RPs K p vs us) (hl : vs.length = n) (h : callP fs vs l Qd Ed)
    (k : After K p Qd Q) (kx : ∀ ex l' cls dd p', Ext p p' → WF p' → Cells K p' l' → XR K p' ex cls dd → Ed ex l' → E cls dd p'.H) : spQ K n fs us p.H Q E := by
  unfold callP at h
  split at h
  · rename_i cs hcs
    obtain ⟨nd, hfs⟩ := h
    obtain ⟨gl, gp⟩ := pick_get hcs
    generalize hns : locsOf vs = ns at *
    have lt : ∀ j m, ns[j]? = some m → ∃ a, p.rho[m]? = some a ∧ (addrs p ns)[j]? = some a := fun j m e => by
      obtain ⟨c, h1, _⟩ := gp j m e
      obtain ⟨a, h2, _⟩ := ce.2 m c h1
      exact ⟨a, h2, addrs_get e h2⟩
    have sub : ∀ a ∈ addrs p ns, ∃ (j m : Nat), ns[j]? = some m ∧ p.rho[m]? = some a ∧ (addrs p ns)[j]? = some a := fun a m => by
      obtain ⟨j, hj⟩ := List.getElem?_of_mem m
      have hj1 : j < ns.length := by
        have := (List.getElem?_eq_some_iff.mp hj).1
        simpa [addrs] using this
      obtain ⟨b, h1, h2⟩ := lt j _ (List.getElem?_eq_getElem hj1)
      rw [hj] at h2
      cases h2
      exact ⟨j, _, List.getElem?_eq_getElem hj1, h1, hj⟩
    have wc : WF ⟨p.H, addrs p ns, p.F⟩ := by
      refine ⟨?_, fun a m => ?_, w.fs⟩
      · rw [List.nodup_iff_pairwise_ne, List.pairwise_iff_getElem]
        intro i j hi hj hij e
        have h1 := List.getElem?_eq_getElem hi
        have h2 := List.getElem?_eq_getElem hj
        obtain ⟨a, q1, q2⟩ := lt i _ (List.getElem?_eq_getElem (by simpa [addrs] using hi))
        obtain ⟨b, q3, q4⟩ := lt j _ (List.getElem?_eq_getElem (by simpa [addrs] using hj))
        rw [h1] at q2
        rw [h2] at q4
        cases q2; cases q4
        rw [e] at q1
        have z := nodup_at w.nd q1 q3
        have z2 := (List.getElem_inj nd).mp z
        omega
      · obtain ⟨_, _, _, h1, _⟩ := sub a m
        exact w.hs a (List.mem_of_getElem? h1)
    have cc : Cells K ⟨p.H, addrs p ns, p.F⟩ cs := by
      refine ⟨by simp [addrs, gl], fun j c e => ?_⟩
      have hj : j < ns.length := by rw [← gl]; exact (List.getElem?_eq_some_iff.mp e).1
      obtain ⟨c', h1, h2⟩ := gp j _ (List.getElem?_eq_getElem hj)
      rw [e] at h2
      cases h2
      obtain ⟨a, h3, h4⟩ := ce.2 _ _ h1
      exact ⟨a, addrs_get (List.getElem?_eq_getElem hj) h3, h4.hf ⟨fun _ z => z, fun _ _ z _ => z⟩ rfl fun z => z⟩
    -- back in the caller
    have back : ∀ (p' : Pt) (l' : LS) (t : List Addr) (l2 : LS), Ext ⟨p.H, addrs p ns, p.F⟩ p' → WF p' → Cells K p' l' → (t = [] ∧ l2 = wback l ns l' ∨ ∃ a c, t = [a] ∧ p'.rho[ns.length]? = some a ∧ l'[ns.length]? = some c ∧ l2 = wback l ns l' ++ [c]) →
        Ext p ⟨p'.H, p.rho ++ t, p'.F⟩ ∧ WF ⟨p'.H, p.rho ++ t, p'.F⟩ ∧ Cells K ⟨p'.H, p.rho ++ t, p'.F⟩ l2 := fun p' l' t l2 e w' c' ht => by
      have hnew : ∀ a, a ∈ t → p.H a = none ∧ a ∉ p.rho ∧ ∃ o, p'.H a = some o := fun a m => by
        rcases ht with ⟨rfl, _⟩ | ⟨b, c, rfl, h1, h2, _⟩
        · simp at m
        · simp at m
          subst m
          have hn : p.H a = none := by
            rcases e.new a (List.mem_of_getElem? h1) with z | z
            · exfalso
              obtain ⟨j, hj⟩ := List.getElem?_of_mem z
              obtain ⟨u, hu⟩ := e.pre
              have hj1 : j < (addrs p ns).length := (List.getElem?_eq_some_iff.mp hj).1
              have hj2 : p'.rho[j]? = some a := by rw [hu]; exact (List.getElem?_append_left hj1).trans hj
              have := nodup_at w'.nd hj2 h1
              have hj3 : j < ns.length := by simpa [addrs] using hj1
              omega
            · exact z
          exact ⟨hn, w.nrho hn, w'.hs a (List.mem_of_getElem? h1)⟩
      have hf : HF p' ⟨p'.H, p.rho ++ t, p'.F⟩ := ⟨fun _ z => z, fun _ _ z _ => z⟩
      have E2 : Ext p ⟨p'.H, p.rho ++ t, p'.F⟩ := by
        refine ⟨⟨t, rfl⟩, fun a m => ?_, e.fm, fun a z => ?_, fun b o z n => e.keep b o z fun m => ?_, e.keepF, e.there⟩
        · rcases List.mem_append.mp m with m | m
          · exact .inl m
          · exact .inr (hnew a m).1
        · rcases e.fn a z with z | z | z
          · exact .inl z
          · exact .inr (.inl z)
          · obtain ⟨_, _, _, h1, _⟩ := sub a z
            exact .inr (.inr (List.mem_of_getElem? h1))
        · obtain ⟨_, _, _, h1, _⟩ := sub b m
          exact n (List.mem_of_getElem? h1)
      have W2 : WF ⟨p'.H, p.rho ++ t, p'.F⟩ := by
        refine ⟨?_, fun a m => ?_, w'.fs⟩
        · show (p.rho ++ t).Nodup
          rw [List.nodup_append]
          refine ⟨w.nd, ?_, fun x hx y hy q => (hnew y hy).2.1 (by rw [← q]; exact hx)⟩
          rcases ht with ⟨rfl, _⟩ | ⟨b, c, rfl, _⟩ <;> simp
        · rcases List.mem_append.mp m with m | m
          · obtain ⟨o, z⟩ := w.hs a m
            exact e.there a o z
          · exact (hnew a m).2.2
      have old : ∀ i c, (wback l ns l')[i]? = some c → ∃ a, p.rho[i]? = some a ∧ CellOk K ⟨p'.H, p.rho ++ t, p'.F⟩ c a := fun i c q => by
        have hi : i < l.length := by rw [← wback_len ns l l']; exact (List.getElem?_eq_some_iff.mp q).1
        by_cases m : i ∈ ns
        · obtain ⟨j, hj⟩ := List.getElem?_of_mem m
          obtain ⟨a, h1, h2⟩ := lt j i hj
          obtain ⟨u, hu⟩ := e.pre
          have hj1 : j < ns.length := (List.getElem?_eq_some_iff.mp hj).1
          have h3 : p'.rho[j]? = some a := by rw [hu]; exact (List.getElem?_append_left (by simpa [addrs] using hj1)).trans h2
          have hj2 : j < l'.length := by rw [c'.1]; exact (List.getElem?_eq_some_iff.mp h3).1
          have q2 := wback_in ns l l' i j _ nd hj hi (List.getElem?_eq_getElem hj2)
          rw [q] at q2
          cases q2
          obtain ⟨b, h4, h5⟩ := c'.2 j _ (List.getElem?_eq_getElem hj2)
          rw [h3] at h4
          cases h4
          exact ⟨a, h1, h5.hf hf rfl fun z => z⟩
        · rw [wback_out ns l l' i m] at q
          obtain ⟨a, h1, h2⟩ := ce.2 i c q
          have na : a ∉ addrs p ns := fun z => by
            obtain ⟨j, m', h3, h4, _⟩ := sub a z
            have := nodup_at w.nd h4 h1
            subst this
            exact m (List.mem_of_getElem? h3)
          obtain ⟨o, ho⟩ := w.hs a (List.mem_of_getElem? h1)
          refine ⟨a, h1, h2.mono E2 ((e.keep a o ho na).trans ho.symm) fun z => ?_⟩
          rcases e.fn a z with z | z | z
          · exact z
          · rw [show p.H a = none from z] at ho; cases ho
          · exact absurd z na
      refine ⟨E2, W2, ?_⟩
      have hlen : l.length = p.rho.length := ce.1
      rcases ht with ⟨rfl, rfl⟩ | ⟨a, c, rfl, h1, h2, rfl⟩
      · refine ⟨by rw [wback_len]; simp [ce.1], fun i c q => ?_⟩
        obtain ⟨a, g1, g2⟩ := old i c q
        exact ⟨a, by show (p.rho ++ [])[i]? = _; rw [List.append_nil]; exact g1, g2⟩
      · refine ⟨by simp [wback_len, ce.1], fun i d q => ?_⟩
        by_cases hi : i < l.length
        · rw [List.getElem?_append_left (by rw [wback_len]; exact hi)] at q
          obtain ⟨b, g1, g2⟩ := old i d q
          exact ⟨b, by show (p.rho ++ [a])[i]? = _; rw [List.getElem?_append_left (by omega)]; exact g1, g2⟩
        · have hi' : i = l.length := by
            have := (List.getElem?_eq_some_iff.mp q).1
            simp only [List.length_append, wback_len, List.length_singleton] at this
            omega
          subst hi'
          rw [List.getElem?_append_right (by rw [wback_len]; exact Nat.le_refl _), wback_len] at q
          simp at q
          subst q
          obtain ⟨b, g1, g2⟩ := c'.2 _ _ h2
          rw [h1] at g1
          cases g1
          exact ⟨a, by show (p.rho ++ [a])[l.length]? = _; rw [hlen, List.getElem?_append_right (Nat.le_refl _)]; simp, g2.hf hf rfl fun z => z⟩
    refine ⟨⟨p.H, addrs p ns, p.F⟩, relab vs 0, cs, _, _, rfl, wc, cc, relab_ok (t := []) r (by simp [hns]) rfl, ?_, hfs, fun d l' v p' e w' c' r' q => ?_, fun ex l' cls dd p' e w' c' x q => ?_⟩
    · rw [← hl]
      have : ∀ (vs : List P) (i : Nat), (relab vs i).length = vs.length := by
        intro vs
        induction vs with
        | nil => intro i; rfl
        | cons v r ih => intro i; cases v <;> simp [relab, ih]
      exact this vs 0
    · unfold callB at q
      split at q
      · rename_i x
        obtain ⟨E2, W2, C2⟩ := back p' l' [] _ e w' c' (.inl ⟨rfl, rfl⟩)
        exact k (.d x) _ v ⟨p'.H, p.rho ++ [], p'.F⟩ E2 W2 C2 (show RP K ⟨p'.H, p.rho ++ [], p'.F⟩ (.d x) v from RD.mono (p := p') (p' := ⟨p'.H, p.rho ++ [], p'.F⟩) ⟨fun _ z => z, fun _ _ z _ => z⟩ r') q
      · rename_i j
        obtain ⟨a, h1, rfl⟩ := r'
        split at q
        · rename_i hj
          obtain ⟨E2, W2, C2⟩ := back p' l' [] _ e w' c' (.inl ⟨rfl, rfl⟩)
          obtain ⟨b, h2, h3⟩ := lt j _ (List.getElem?_eq_getElem hj)
          obtain ⟨u, hu⟩ := e.pre
          have h4 : p'.rho[j]? = some b := by rw [hu]; exact (List.getElem?_append_left (by simpa [addrs] using hj)).trans h3
          rw [h1] at h4
          cases h4
          refine k (.loc (ns.getD j 0)) _ (.ref a) ⟨p'.H, p.rho ++ [], p'.F⟩ E2 W2 C2 (show RP K ⟨p'.H, p.rho ++ [], p'.F⟩ (.loc (ns.getD j 0)) (.ref a) from ⟨a, ?_, rfl⟩) q
          show (p.rho ++ [])[ns.getD j 0]? = _
          rw [List.append_nil, List.getD_eq_getElem?_getD, List.getElem?_eq_getElem hj]
          exact h2
        · rename_i hj
          split at q
          · rename_i hjn
            subst hjn
            split at q
            · rename_i c hc
              obtain ⟨b, g1, g2⟩ := c'.2 _ _ hc
              rw [h1] at g1
              cases g1
              obtain ⟨E2, W2, C2⟩ := back p' l' [a] _ e w' c' (.inr ⟨a, c, rfl, h1, hc, rfl⟩)
              refine k (.loc l.length) _ (.ref a) ⟨p'.H, p.rho ++ [a], p'.F⟩ E2 W2 C2 (show RP K ⟨p'.H, p.rho ++ [a], p'.F⟩ (.loc l.length) (.ref a) from ⟨a, ?_, rfl⟩) q
              show (p.rho ++ [a])[l.length]? = _
              rw [ce.1, List.getElem?_append_right (Nat.le_refl _)]
              simp
            · exact q.elim
          · exact q.elim
      · exact q.elim
    · obtain ⟨E2, W2, C2⟩ := back p' l' [] _ e w' c' (.inl ⟨rfl, rfl⟩)
      exact kx ex _ cls dd ⟨p'.H, p.rho ++ [], p'.F⟩ E2 W2 C2 (XR.mono (p := p') (p' := ⟨p'.H, p.rho ++ [], p'.F⟩) ⟨fun _ z => z, fun _ _ z _ => z⟩ x) q
  · exact h.elim
end
/-- a def as it may be called by its name -/
def CalQ (P : Program) (w : World) (K : PySem.W.Frag) (mg : Str → Option Value) (base : Heap) (k : Nat) (x : Str) (n : Nat) (fs : FS) : Prop :=
  ∃ f fd ps, FnOk P w K mg base (L2.CX P w) k f fd ps (spQ K n fs) ∧ mg x = some (.ref f) ∧ PySem.W.keepIn K (.ref f) = true ∧ Binds K fd ps []
section
variable {X : Cx} {W : WX} {e : Expr} {es : List Expr} {ws : WA} {pos q : Pos} {x : Str} {fs : FS} {k j n : Nat}
def kCall (n : Nat) (fs : FS) (Q : P → LS → Prop) (E : EK) (vs : List P) (l : LS) : Prop := vs.length = n ∧ callP fs vs l Q E
def wCall (n : Nat) (fs : FS) (ws : WA) (σ : SS) (l : LS) (Q : P → LS → Prop) (E : EK) : Prop := ws σ l (kCall n fs Q E) E
theorem qe_call (c : CalQ X.prog X.w X.K X.mg X.base k x n fs) (hr : Room j X.A) (hk : k ≤ j) (tk : Takes X W) (hg : Gl X x) (ha : QA X W (e :: es) ws)
    (hdb : (x == ("__debug__" : Str)) = false := by decide) (he : starEach (e :: es) X.env = (false, eval e X.env) :: starEach es X.env := by rfl) (hpl : (backTo pos (starEach es X.env)).any (·.1) = false := by rfl) :
    QE X W (.Call (.Name x q) (e :: es) [] pos) (wCall n fs ws) := by
  obtain ⟨f, fd, ps, F, hm, hkp, hb⟩ := c
  refine PE.imp (pe_callS (E := fun σ => L2.WE W σ) F (hr.mono hk) hg hm hkp hb (fun σ => passAt tk σ) ha hdb he hpl) fun σ H Q ⟨p, σd, l, Qd, Ed, hH, R, hw, kk, lk⟩ => ?_
  subst hH
  exact cA_ok R hw lk fun vs l1 us p1 e1 R1 r1 q1 => call_ok R1.wf R1.ce r1 q1.1 q1.2 (fun d l' v p' e' w' c' r' q' => kk d l' v p' (e1.trans e') (R1.ext e' w' c') r' q') fun ex l' cls dd p' e' w' c' x q => lk ex l' cls dd p' (e1.trans e') (R1.ext e' w' c') x q
end
end QL
set_option Elab.async false
set_option linter.all false
set_option maxRecDepth 100000
set_option maxHeartbeats 4000000
/-! QL7: short words for the readings of defs. -/
namespace QL
open PySem L2
theorem qi_lst {X : Cx} {W : WX} {tg e : Expr} {we : WE} (h : QE X W e we) : QI X W tg e (iLst we) := qi_list h (pi_list h)
section
variable {g : WG} {tb : WS} {D : ED} {σ : SS} {l : LS}
/-- a loop over things that stay -/
theorem loopX {xs : List QL.D} (Iv : Nat → SS → LS → Prop) (h0 : Iv 0 σ l)
    (ht : ∀ i x σ l, xs[i]? = some x → Iv i σ l → g (.d x) σ l (kTurn tb D (Iv (i + 1)))) (hd : ∀ σ l, Iv xs.length σ l → D.nx σ l) : loopP ⟨xs, okAll⟩ g tb D σ l :=
  ⟨Iv, h0, fun _ _ _ _ => True.intro, ht, hd⟩
theorem loopR {lo : Int} {n : Nat} (Iv : Nat → SS → LS → Prop) (h0 : Iv 0 σ l)
    (ht : ∀ (i : Nat) σ l, i < n → Iv i σ l → g (.d (.int (lo + i))) σ l (kTurn tb D (Iv (i + 1)))) (hd : ∀ σ l, Iv n σ l → D.nx σ l) : loopP ⟨rangeD lo n, okAll⟩ g tb D σ l :=
  loopX Iv h0 (fun i x σ l e h => by
    obtain ⟨h1, rfl⟩ := rangeD_get e
    exact ht i σ l h1 h) (by rw [rangeD_len]; exact hd)
theorem loopC {lo c : Int} {n : Nat} (Iv : Nat → SS → LS → Prop) (h0 : Iv 0 σ l)
    (ht : ∀ (i : Nat) σ l, i < n → Iv i σ l → g (.d (.int (lo + i * c))) σ l (kTurn tb D (Iv (i + 1)))) (hd : ∀ σ l, Iv n σ l → D.nx σ l) : loopP ⟨rangeC lo c n, okAll⟩ g tb D σ l :=
  loopX Iv h0 (fun i x σ l e h => by
    obtain ⟨h1, rfl⟩ := rangeC_get e
    exact ht i σ l h1 h) (by rw [rangeC_len]; exact hd)
/-- a while by an invariant and a measure -/
def kMs (Iv : SS → LS → Prop) (μ : SS → LS → Nat) (m : Nat) (σ : SS) (l : LS) : Prop := ∃ m', m' < m ∧ m' = μ σ l ∧ Iv σ l
theorem whileI {wt : WT} (Iv : SS → LS → Prop) (μ : SS → LS → Nat) (h0 : Iv σ l) (h : ∀ σ l, Iv σ l → wt σ l (kWh tb D (kMs Iv μ (μ σ l)) σ) (exK D σ)) : whileP wt tb D σ l := by
  refine ⟨fun m σ l => m = μ σ l ∧ Iv σ l, ⟨_, rfl, h0⟩, ?_⟩
  rintro m σ l ⟨rfl, hi⟩
  exact h σ l hi
/-- [elt for x in xs], what an item gives may hang on the cells -/
def kIt (Iv : Nat → List QL.D → LS → Prop) (n i : Nat) (acc : List QL.D) (l : LS) : Prop := (acc.length = i ∧ i ≤ n) ∧ Iv i acc l
theorem lcI {xs : List QL.D} {te : WE} {vs : List Nat} {f : Fresh} {Q : P → LS → Prop} (Iv : Nat → List QL.D → LS → Prop) (hz : xs.length < sizeLine) (h0 : Iv 0 [] l)
    (ht : ∀ i x acc l, xs[i]? = some x → acc.length = i → Iv i acc l → g (.d x) (wipeD σ vs) l (kLcT wYes te vs σ (kIt Iv xs.length (i + 1)) acc)) (hd : ∀ acc l, acc.length = xs.length → Iv xs.length acc l → freshL f acc l Q) : lcP ⟨xs, okAll⟩ g wYes te vs f σ l Q :=
  ⟨kIt Iv xs.length, ⟨⟨rfl, Nat.zero_le _⟩, h0⟩, fun i acc l h => ⟨True.intro, by have := h.1; show acc.length < sizeLine; omega⟩, fun i x acc l e h => ht i x acc l e h.1.1 h.2, fun acc l h => hd acc l h.1.1 h.2⟩
end
/-- over a list in a cell -/
theorem lcC {xs : List D} {ok : LS → Prop} {g : WG} {σ : SS} {l : LS} {te : WE} {vs : List Nat} {f : Fresh} {Q : P → LS → Prop} (Iv : Nat → List D → LS → Prop) (hz : xs.length < sizeLine) (h0 : Iv 0 [] l) (hok : ∀ i acc l, Iv i acc l → ok l)
    (ht : ∀ i x acc l, xs[i]? = some x → acc.length = i → Iv i acc l → g (.d x) (wipeD σ vs) l (kLcT wYes te vs σ (kIt Iv xs.length (i + 1)) acc)) (hd : ∀ acc l, acc.length = xs.length → Iv xs.length acc l → freshL f acc l Q) : lcP ⟨xs, ok⟩ g wYes te vs f σ l Q :=
  ⟨kIt Iv xs.length, ⟨⟨rfl, Nat.zero_le _⟩, h0⟩, fun i acc l h => ⟨hok _ _ _ h.2, by have := h.1; show acc.length < sizeLine; omega⟩, fun i x acc l e h => ht i x acc l e h.1.1 h.2, fun acc l h => hd acc l h.1.1 h.2⟩
theorem loopA {I : Items} {g : WG} {tb : WS} {D : ED} {σ : SS} {l : LS} (Iv : Nat → SS → LS → Prop) (h0 : Iv 0 σ l) (hok : ∀ i σ l, Iv i σ l → I.ok l)
    (ht : ∀ i x σ l, I.xs[i]? = some x → Iv i σ l → g (.d x) σ l (kTurn tb D (Iv (i + 1)))) (hd : ∀ σ l, Iv I.xs.length σ l → D.nx σ l) : loopP I g tb D σ l := ⟨Iv, h0, hok, ht, hd⟩
theorem atI_m {α β : Type} {ns : List α} {f : α → β} {k : Int} {j : Nat} {x : α} (hk : k = (j : Int)) (hx : ns[j]? = some x) : atI (ns.map f) k = some (f x) := by
  subst hk
  have hj := (List.getElem?_eq_some_iff.mp hx).1
  unfold atI ixN
  rw [List.length_map, if_pos (by omega), if_pos (by omega)]
  simp [hx]
theorem atI_n {α : Type} {ns : List α} {k : Int} {j : Nat} {x : α} (hk : k = (j : Int)) (hx : ns[j]? = some x) : atI ns k = some x := by
  subst hk
  have hj := (List.getElem?_eq_some_iff.mp hx).1
  unfold atI ixN
  rw [if_pos (by omega), if_pos (by omega)]
  simp [hx]
theorem ixN_n {n j : Nat} {k : Int} (hk : k = (j : Int)) (h : j < n) : ixN n k = some j := by
  subst hk
  unfold ixN
  rw [if_pos (by omega), if_pos (by omega)]
  simp
theorem get_at {α : Type} {xs : List α} {i : Nat} (h : i < xs.length) : xs[i]? = some xs[i] := List.getElem?_eq_getElem h
theorem dOk_int {n : Nat} {i : Int} : dOk n (.int i) ↔ True := by cases n <;> simp [dOk]
theorem dOk_non {n : Nat} : dOk n .non ↔ True := by cases n <;> simp [dOk]
theorem dOk_bl {n : Nat} {b : Bool} : dOk n (.bl b) ↔ True := by cases n <;> simp [dOk]
theorem dOk_ints {n : Nat} {ns : List Int} : dOk (n + 1) (.tup (ns.map .int)) ↔ True := by
  simp only [dOk_tup, List.mem_map, forall_exists_index, and_imp, forall_apply_eq_imp_iff₂, dOk_int, implies_true]
theorem dOk_lints {n : Nat} {ns : List Int} : dOk (n + 1) (.lst (ns.map .int)) ↔ True := by
  simp only [dOk_lst, List.mem_map, forall_exists_index, and_imp, forall_apply_eq_imp_iff₂, dOk_int, implies_true]
theorem dOk_nil {n : Nat} : dOk (n + 1) (.tup []) ↔ True := by simp [dOk_tup]
theorem dOk_cons {n : Nat} {x : D} {xs : List D} : dOk (n + 1) (.tup (x :: xs)) ↔ dOk n x ∧ dOk (n + 1) (.tup xs) := by simp [dOk_tup]
theorem noB_int {i : Int} : noB (.int i) ↔ True := by simp [noB]
theorem noB_non : noB .non ↔ True := by simp [noB]
theorem noB_str {x : Str} : noB (.str x) ↔ True := by simp [noB]
theorem noB_nil : noB (.tup []) ↔ True := by simp [noB]
theorem noB_cons {x : D} {xs : List D} : noB (.tup (x :: xs)) ↔ noB x ∧ noB (.tup xs) := by simp [noB]
theorem noB_ints {ns : List Int} : noB (.tup (ns.map .int)) ↔ True := by
  simp only [noB, List.mem_map, forall_exists_index, and_imp, forall_apply_eq_imp_iff₂, implies_true]
theorem rng_snoc {α : Type} {y : Nat → α} {acc : List α} {i : Nat} (h : acc = (List.range i).map y) : acc ++ [y i] = (List.range (i + 1)).map y := by
  rw [List.range_succ, List.map_append, h]
  rfl
/-! the size of data -/
mutual
def D.sz : D → Nat
  | .tup xs => 1 + D.szs xs
  | .lst xs => 1 + D.szs xs
  | _ => 1
def D.szs : List D → Nat
  | [] => 0
  | x :: xs => x.sz + D.szs xs
end
theorem szs_app : ∀ xs ys : List D, D.szs (xs ++ ys) = D.szs xs + D.szs ys
  | [], ys => by simp [D.szs]
  | x :: xs, ys => by simp only [List.cons_append, D.szs, szs_app xs ys]; omega
theorem sz_pos (x : D) : 1 ≤ x.sz := by cases x <;> simp [D.sz]
theorem len_szs : ∀ xs : List D, xs.length ≤ D.szs xs
  | [] => Nat.le_refl _
  | x :: xs => by
    have := len_szs xs
    have := sz_pos x
    simp only [List.length_cons, D.szs]
    omega
theorem last_split {α : Type} {xs : List α} (h : xs ≠ []) : ∃ (ys : List α) (y : α), xs = ys ++ [y] ∧ xs[xs.length - 1]? = some y ∧ xs.dropLast = ys := by
  refine ⟨xs.dropLast, xs.getLast h, (List.dropLast_concat_getLast h).symm, ?_, rfl⟩
  rw [← List.getLast?_eq_getElem?, List.getLast?_eq_some_getLast h]
theorem atI_cons1 {α : Type} {x y : α} {r : List α} : atI (x :: y :: r) 1 = some y := atI_n (j := 1) rfl rfl
theorem atI_cons2 {α : Type} {x y z : α} {r : List α} : atI (x :: y :: z :: r) 2 = some z := atI_n (j := 2) rfl rfl
theorem cutTake {α : Type} {xs : List α} {k : Nat} : cutD xs none (some (k : Int)) = xs.take k := by
  unfold cutD
  rw [HT.sIx_none, HT.sIx_nat]
  simp only [List.drop_zero, Nat.sub_zero]
  rw [Nat.min_comm, ← List.take_take]
  exact List.take_of_length_le (by simp; omega)
theorem atI_cons0 {α : Type} {x : α} {r : List α} : atI (x :: r) 0 = some x := atI_n (j := 0) rfl rfl
theorem seqIx0 {n : Nat} : seqIndex? 0 (n + 1) = some 0 := by
  unfold seqIndex?
  simp
theorem ixN0 {n : Nat} : ixN (n + 1) 0 = some 0 := ixN_n (j := 0) rfl (by omega)
theorem pos_len (n : Nat) : (0 : Int) < ((n + 1 : Nat) : Int) ↔ True := ⟨fun _ => True.intro, fun _ => by omega⟩
theorem ne_len (n : Nat) : ((n + 1 : Nat) : Int) = 0 ↔ False := ⟨fun h => by omega, False.elim⟩
theorem nodup1 {n : Nat} : [n].Nodup ↔ True := by simp
theorem cut63 {α : Type} {xs : List α} {k : Nat} (h : xs.length ≤ k) : cutD xs none (some (k : Int)) = xs := by
  unfold cutD
  rw [HT.sIx_none, HT.sIx_nat]
  simp [Nat.min_eq_right h]
end QL
set_option Elab.async false
set_option linter.all false
set_option maxRecDepth 100000
set_option maxHeartbeats 4000000
/-! QL8: the law's own head. -/
namespace QL
open PySem L2
theorem rds_ints {K : PySem.W.Frag} {p : Pt} : ∀ ns : List Int, RDs K p (ns.map .int) (ns.map V.int)
  | [] => .nil
  | _ :: r => .cons (.int _) (rds_ints r)
def endD (r : P) (_ : LS) : Prop := r = .d (.bl true)
def endX : EK := fun _ _ => False
theorem end_sp {K : PySem.W.Frag} {H : Hp} {a : Addr} {ns : List Int} {fs : FS} (hO : Only H) (hS : SqL K H a (ns.map V.int)) (hfs : fs [.d (.scr (ns.map .int))] [] endD endX) :
    spQ K 1 fs [.ref a] H (fun v _ => v = .bl true) (fun _ _ _ => False) := by
  have hs : ScrAt K ⟨H, [], fun b => H b ≠ none⟩ a (ns.map V.int) := by
    rcases hS with h | h
    · refine .inl ⟨?_, h⟩
      rcases h with h | ⟨o, h⟩
      · show H a ≠ none
        rw [h]; intro e; cases e
      · show H a ≠ none
        rw [h]; intro e; cases e
    · exact .inr (.inr h)
  have wf : WF ⟨H, [], fun b => H b ≠ none⟩ := ⟨List.nodup_nil, fun a h => absurd h List.not_mem_nil, fun b hb => Option.ne_none_iff_exists'.mp hb⟩
  have ce : Cells K ⟨H, [], fun b => H b ≠ none⟩ [] := ⟨rfl, fun i c h => by simp at h⟩
  have rr : RP K ⟨H, [], fun b => H b ≠ none⟩ (.d (.scr (ns.map .int))) (.ref a) := RD.scr hs (rds_ints ns)
  refine ⟨⟨H, [], fun b => H b ≠ none⟩, _, [], endD, endX, rfl, wf, ce, .cons rr .nil, rfl, hfs, fun d l' v p' _ _ _ r q => ?_, fun ex l' cls dd p' _ _ _ _ q => q.elim⟩
  cases q
  cases r
  rfl
theorem end_cx {P : Program} {w : World} {H : Hp} {s : Shared} {e : Value} {s' : Shared} (h : L2.CX P w [] H s (fun _ _ _ => False) e s') : False := by
  obtain ⟨_, _, _, _, _, _, _, _, _, _, _, _, h⟩ := h
  exact h
theorem calq {P : Program} {w : World} {K : PySem.W.Frag} {mg : Str → Option Value} {base : Heap} {k : Nat} {x : Str} {n : Nat} {fs : FS} {f : Addr} {fd : FuncData} {st : Stmt} {ps : List Str} (F : Fun K x x st f fd) (hm : mg x = some (.ref f)) (ok : FnOk P w K mg base (L2.CX P w) k f fd ps (spQ K n fs))
    (h : ∀ (kV doc pm : Value) (an : Option Addr) (cdv ct : Value) (us : List Value), us.length = ps.length → bindArgs (PySem.W.fnOf x x (defArgs st) (defBody st) (defScope st) .none kV doc pm an cdv ct) ⟨us, []⟩ = pure (ps.zip us)) : CalQ P w K mg base k x n fs :=
  ⟨f, fd, ps, ok, hm, F.kp, F.binds h⟩
end QL
set_option Elab.async false
set_option linter.all false
set_option maxRecDepth 100000
set_option maxHeartbeats 4000000
/-! QX1: an own exception class whose __init__ begins with super().__init__('..'). -/
namespace QL
open PySem L2 PySem.Calls PyProof.Rows

/-! ### the bound __init__ is called -/
section
variable {prog : Program} {w : World} {A : Around} {E : Value → Shared → Prop} {s : Shared} {K : PySem.W.Frag} {h : Heap} {g : Array GenState} {d : Drawn} {t : Nat} {os : OsState}
theorem call_mw {B newId i : String} {bmB : List Value} {nm q : Str} {C N : Addr} {bs bm : List Value} {hdct : Bool} {sn : List Str} {sub : List Value} {ab : Bool} {col : Option Bool} {dd : Option Addr} {k0 k1 k2 k3 k5 : Option Value} {u e t0 : Addr} {rest : List Value} {Q : Value → Shared → Prop}
    (FB : ExcBaseFacts B newId i bmB) (hC : h.get? C = some (excClassObj nm q C N bs bm hdct sn sub ab col dd k0 k1 k2 k3 k5 newId)) (he : h.get? e = some (PySem.HandSPX.excO C t0)) (hu : h.get? u = some (PySem.W.kxs_mw i e)) (hrest : rest.length ≤ sizeLine)
    (hq : ∀ h' t1, (∀ b o, b ≠ e → h.get? b = some o → h'.get? b = some o) → h'.get? e = some (PySem.HandSPX.excO C t1) → Q .none ⟨h', g, d, t, os⟩) :
    wpAny (model prog w) A (call (.ref u) rest) Q E ⟨h, g, d, t, os⟩ := by
  refine wpAny_call (codeAny_of_tree ?_)
  show wpAny _ A.in1 (callAny (.ref u) ⟨rest, []⟩) _ _ _
  simp only [callAny]
  refine wpAny_bind (wpAny_load hu ?_)
  simp only [PySem.W.kxs_mw, show (Value.type "method-wrapper" == Value.type "method" || Value.type "method-wrapper" == Value.type "builtin_function_or_method" || Value.type "method-wrapper" == Value.type "method-wrapper") = true by decide, if_true]
  refine W.KFB.if_so (by decide) ?_
  refine wpAny_bind (PySem.W.check_bound_init FB.toExcCallFacts hC he rfl ?_)
  refine wpAny_bind (wpAny_pure (wpAny_pure ?_))
  refine ⟨PySem.plainId_quiet FB.init.plain _, codeAny_builtin FB.initEntry ?_⟩
  exact PySem.W.exc_init_tree (cls := .ref C) (t0 := t0) (dv := none) (c2 := .none) (c3 := .none) (b4 := .bool false) he hrest fun h' k e' _ => hq h' _ k e'
end

/-! ### the context of such an __init__ -/
def cxS (CX : CXT) (P : Program) (w : World) (K : PySem.W.Frag) (mg : Str → Option Value) (base : Heap) (N : List Str) (qual : Str) (scope : Scope) (f : Addr) (cd : Value) (cc : Addr) (A : Around) (outer : List Env) (s : Shared) (H : Hp) (E : XK) : Cx where
  prog := P
  w := w
  K := K
  mg := mg
  base := base
  A := A.deeper (PySem.W.ksEnv qual scope s.heap.objs.size f cd cc)
  N := N
  s_0 := s
  H_0 := H
  env := PySem.W.ksEnv qual scope s.heap.objs.size f cd cc
  outer := outer
  stack := PySem.W.ksEnv qual scope s.heap.objs.size f cd cc :: outer
  ex := []
  calm := true
  fn := fun _ => false
  pn := []
  xe := fun e s' => wpAny (model P w) (A.deeper (PySem.W.ksEnv qual scope s.heap.objs.size f cd cc)) (leaving (PySem.W.ksEnv qual scope s.heap.objs.size f cd cc) e) (fun _ s'' => CX outer H s E e s'') (fun e' s'' => CX outer H s E e' s'') s'
structure SupScope (N ps : List Str) (sc : Scope) : Prop where
  kind : sc.kind = .function
  co : sc.isCoroutine = false
  gen : sc.isGenerator = false
  nd : N.Nodup
  pre : N.take ps.length = ps
  par : ∀ x ∈ ps, sc.names.lookup x = some .local
  nocell : ∀ y ∈ sc.names, y.2 ≠ .cell
  free : ∀ y ∈ sc.names, y.2 = .free → y.1 = "__class__"
  sup : sc.names.lookup ("super" : Str) = some .globalImplicit
  cls : sc.names.lookup ("__class__" : Str) = some .free

theorem zip_look {x : Str} {v : Value} : ∀ {P : List Str} {vs : List Value} {i : Nat}, P.Nodup → P[i]? = some x → vs[i]? = some v → (P.zip vs).reverse.lookup x = some v
  | [], _, _, _, h, _ => by simp at h
  | _ :: _, [], _, _, _, h => by simp at h
  | p :: P, w :: vs, 0, nd, h1, h2 => by
    simp at h1 h2; subst h1; subst h2
    rw [List.zip_cons_cons, List.reverse_cons, List.lookup_append]
    have : (P.zip vs).reverse.lookup p = none := by
      rw [List.lookup_eq_none_iff]
      intro y hy
      have hy := List.of_mem_zip (List.mem_reverse.mp hy)
      have : y.1 ≠ p := fun e => (List.nodup_cons.mp nd).1 (e ▸ hy.1)
      simpa [bne_iff_ne] using fun e : p = y.1 => this e.symm
    rw [this]
    simp
  | p :: P, w :: vs, i + 1, nd, h1, h2 => by
    rw [List.zip_cons_cons, List.reverse_cons, List.lookup_append, zip_look (i := i) (List.nodup_cons.mp nd).2 (by simpa using h1) (by simpa using h2)]
    rfl
theorem inv_sup {CX : CXT} {P : Program} {w : World} {K : PySem.W.Frag} {mg : Str → Option Value} {base : Heap} {N ps : List Str} {qual : Str} {scope : Scope} {f cc : Addr} {cd : Value} {A : Around} {outer : List Env} {s : Shared} {H : Hp} {E : XK} {us : List Value} {vs : List V} {h1 : Heap} {tk : Nat} {cl : Value} {cld : Option Addr} {csl : Array (Option Value)} {C : Addr}
    (S : SupScope N ps scope) (hcell : K.lookup cc = some ⟨cl, cld, .cell (some (.ref C)), csl⟩) (hd : A.handled = none) (e0 : Env0 P w K mg base A outer s H) (hl : vs.length = ps.length) (r : Vals vs us)
    (hns : h1.Ns s.heap.objs.size (fun x => (ps.zip us).reverse.lookup x)) (hk : ∀ b o, s.heap.get? b = some o → h1.get? b = some o) :
    Inv (cxS CX P w K mg base N qual scope f cd cc A outer s H E) [] (start N vs) H { s with heap := h1, toks := tk } := by
  have hpl : ps.length ≤ N.length := by have := congrArg List.length S.pre; rw [List.length_take] at this; omega
  have noA : ∀ b : Addr, b ∉ (cxS CX P w K mg base N qual scope f cd cc A outer s H E).ex := fun b z => absurd (show b ∈ ([] : List Addr) from z) (by simp)
  have one : ∀ (x : Str) (c : Addr), ([("__class__", cc)] : List (Str × Addr)).lookup x = some c → x = "__class__" ∧ c = cc := fun x c h => by
    by_cases e : x = "__class__"
    · subst e
      simp at h
      exact ⟨rfl, h.symm⟩
    · rw [List.lookup_cons, show (x == ("__class__" : Str)) = false by simpa using e] at h
      cases h
  have hcb : base.get? cc = some ⟨cl, cld, .cell (some (.ref C)), csl⟩ := e0.mod.kin _ _ hcell
  have hcs := e0.bs _ _ hcb
  refine ⟨⟨e0.mod, S.kind, rfl, rfl, Nat.le_refl _, fun y z c h1 h2 => ?_, fun y hy => ?_, fun y c z _ => absurd (show false = true from z) (by decide), fun _ => hd, Around.frames_deeper e0.frames, .inr ⟨rfl, rfl⟩, fun b z => absurd z (noA b), e0.bs, e0.bsz, fun b _ _ => noA b, fun b z => absurd z (noA b), e0.funs, e0.frf⟩,
    rfl, e0.bare, Un.kept hk, ⟨_, hns, fun i y v h1 h2 h3 => ?_⟩, fun y c h => ?_, e0.hok.fresh (Nat.le_refl _), fun y c h => ?_, fun p hp => absurd (show p ∈ ([] : List (Addr × Obj)) from hp) (by simp), e0.hok.kept hk, ?_⟩
  · rw [(one _ _ h1).1, (one _ _ h2).1]
  · have hy : scope.names.lookup y = some .cell ∨ scope.names.lookup y = some .free := hy
    rcases hy with hy | hy
    · exact absurd rfl (S.nocell _ (PySem.mem_of_lookup hy))
    · have e : y = "__class__" := S.free (y, .free) (PySem.mem_of_lookup hy) rfl
      subst e
      exact ⟨cc, rfl⟩
  · have hi : i < vs.length := by
      unfold L2.start at h2
      by_cases hi : i < vs.length
      · exact hi
      · rw [List.getElem?_append_right (by simpa using hi)] at h2
        rw [List.getElem?_replicate] at h2
        split at h2 <;> cases h2
    have ha : vs[i]? = some v := by
      unfold L2.start at h2
      rw [List.getElem?_append_left (by simpa using hi), List.getElem?_map] at h2
      cases e : vs[i]? with
      | none => rw [e] at h2; cases h2
      | some a => rw [e] at h2; cases h2; rfl
    obtain ⟨u, hu, rv⟩ := r.get ha
    have hp : ps[i]? = some y := by
      rw [← S.pre, List.getElem?_take_of_lt (by omega)]; exact h1
    have ndP : ps.Nodup := by rw [← S.pre]; exact S.nd.sublist (List.take_sublist _ _)
    exact ⟨u, rv, .inl ⟨S.par y (List.mem_of_getElem? hp), zip_look ndP hp hu⟩⟩
  · obtain ⟨rfl, rfl⟩ := one _ _ h
    exact ⟨_, _, hk _ _ hcs.1, rfl⟩
  · obtain ⟨rfl, rfl⟩ := one _ _ h
    exact hcs.2
  · unfold L2.start
    show _ = N.length
    rw [List.length_append, List.length_map, List.length_replicate]
    omega

theorem fn_super {CX : CXT} {P : Program} {w : World} {K : PySem.W.Frag} {mg : Str → Option Value} {base : Heap} {k : Nat} {f cda cc C : Addr} {name qual msg : Str} {params : Arguments} {rest : List Stmt} {scope : Scope} {z : Nat} {p0 p1 p2 p3 p4 pz : Pos} {dV kV doc pm ct oc ccl cl : Value} {an od cdd cld : Option Addr}
    {osl ccs csl : Array (Option Value)} {vs0 : Array Value} {file : Str} {tf : Tok} {ar : Arg} {N ps : List Str} {sp : Sp}
    (lk : K.lookup f = some ⟨oc, od, .func (PySem.W.ksFn name qual params (.Expr (.Call (.Attribute (.Call (.Name "super" p0) [] [] p1) "__init__" p2) [.Constant (.str msg) z pz] [] p3) p4 :: rest) scope dV kV doc pm an (.ref cda) ct cc), osl⟩)
    (hcd : PySem.W.codeIn K (.ref cda) qual = true) (hcode : K.lookup cda = some ⟨ccl, cdd, .fields vs0, ccs⟩) (hvs : vs0[2]? = some (.str file tf)) (hfile : ((P.main.file : Str) == file) = true) (htop : (P.main.scope.names.lookup ("super" : Str)).isSome = false)
    (hcell : K.lookup cc = some ⟨cl, cld, .cell (some (.ref C)), csl⟩) (T : OexC K C) (hsi : PySem.W.ks_superIn K C C "__init__" = some (some (.builtin "ValueError.__init__"))) (hB : PySem.W.subIn K (.ref C) (.type "ValueError") = some true)
    (hop : PySem.W.nsIn K cStatics "thirdparty.any" = some none) (hmg : mg "super" = none)
    (hev : ∀ env : Env, ∃ pl : Sem Bool, eval (.Call (.Attribute (.Call (.Name "super" p0) [] [] p1) "__init__" p2) [.Constant (.str msg) z pz] [] p3) env = (do
      let ov ← attributeBase (.Call (.Name "super" p0) [] [] p1) "__init__" env (eval (.Call (.Name "super" p0) [] [] p1) env)
      standAt p2.atName
      let (f, first) ← holding [ov] (getMethod ov "__init__" pl)
      callWith p3 f first (backTo p3 (starEach [.Constant (.str msg) z pz] env)) []))
    (S : SupScope N ps scope) (hp : (params.posonlyargs ++ params.args).head? = some ar) (h0 : ps[0]? = some ar.arg) (len : ∀ vs H Q E, sp vs H Q E → vs.length = ps.length)
    (hbody : ∀ (A : Around) (outer : List Env) (s : Shared) (H : Hp) (vs : List V) (Q : VK) (E : XK), Room k (A.deeper (PySem.W.ksEnv qual scope s.heap.objs.size f (.ref cda) cc)) → sp vs H Q E →
      (∃ a vs', vs = .ref a :: vs' ∧ H a = some (exo a C none)) ∧ ∃ t, PSs (cxS CX P w K mg base N qual scope f (.ref cda) cc A outer s H E) rest t ∧ t { nx := fun _ H' => Q .non H', rt := Q } (L2.start N vs) H) :
    FnOk P w K mg base CX (k + 1) f (PySem.W.ksFn name qual params (.Expr (.Call (.Attribute (.Call (.Name "super" p0) [] [] p1) "__init__" p2) [.Constant (.str msg) z pz] [] p3) p4 :: rest) scope dV kV doc pm an (.ref cda) ct cc) ps sp := by
  refine ⟨len, fun A outer s H args us vs Q E hr e0 hb r hsp => ?_⟩
  have hl := len _ _ _ _ hsp
  have KX : K.In s.heap := e0.mod.kin.keeps fun b o e => (e0.bs b o e).1
  have lim : s.heap.NoLimit := e0.mod.nolimit.keeps fun b o e => (e0.bs b o e).1
  have hloc : ∀ y ∈ ps.zip us, scope.names.lookup y.1 = some .local := fun ⟨n, v⟩ hy => S.par n (List.of_mem_zip hy).1
  refine ks_codeAny_call_defAt hr.depth (KX _ _ lk) rfl lim (PySem.W.codeRec_of KX hcd) rfl hb S.nocell hloc (fun h₁ hns hk => ?_) S.co S.gen S.kind
  obtain ⟨⟨a, vs', rfl, ea⟩, t, ht, hq⟩ := hbody A outer s H vs Q E (hr.deeper _) hsp
  have I := inv_sup (CX := CX) (E := E) (f := f) (cd := .ref cda) (qual := qual) (tk := s.toks + (ps.zip us).length) S hcell hr.hd e0 hl r hns hk
  obtain ⟨mb, hmb, hboot⟩ := e0.mod.blt
  obtain ⟨nm, q, N0, bs, bm, sn, sub, ab, col, dd, k0, k1, k2, k3, k5, hC, hbm⟩ := T.cls
  have hcl : PySem.W.clsIn K C = some { name := nm, bases := bs, mro := .ref C :: bm, ns := N0, qualname := q, hasDict := true, slotNames := sn, subclasses := sub, abstract := ab, collection := col, hasDel := false } := by unfold PySem.W.clsIn; rw [hC] <;> rfl
  have K1 : K.In h₁ := I.kIn
  obtain ⟨t0, ho⟩ := exo_at I.hok ea
  have hself : ∃ u0 ur, us = u0 :: ur ∧ u0 = .ref a := by
    cases r with
    | @cons _ u0 _ ur ra rw' => exact ⟨u0, ur, rfl, ra⟩
  obtain ⟨u0, ur, rfl, rfl⟩ := hself
  have ndP : ps.Nodup := by rw [← S.pre]; exact S.nd.sublist (List.take_sublist _ _)
  obtain ⟨pl, hev⟩ := hev (PySem.W.ksEnv qual scope s.heap.objs.size f (.ref cda) cc)
  refine ks_wpAt_execs_cons (ks_wpAt_Expr_any (ks_wpAt_MethodCall (pl := pl) ?_ hev) ?_ ?_)
  rotate_left
  · exact I.quiet
  · rfl
  refine ks_wpAt_super_base (by exact S.sup) (by exact S.cls) (by decide) rfl (K1 _ _ lk) rfl hp rfl (K1 _ _ hcode) rfl hvs hfile htop ?_
  refine PySem.W.ks_loadName_global S.kind S.sup (loadGlobal_builtin (mg := mg) (mb := mb) ?_ hmg ?_ ((hboot _ (by decide)).trans rfl) ⟨rfl, ?_⟩)
  · exact e0.mod.glob.keeps I.bk
  · exact hmb.keeps I.bk
  have hcc1 := K1 _ _ hcell
  refine wpAny_loadName_free S.kind S.cls rfl ⟨_, hcc1, rfl⟩ ?_
  refine wpAny_loadName_local S.kind (S.par _ (List.mem_of_getElem? h0)) hns (zip_look ndP h0 rfl) ?_
  have hC1 := K1 _ _ hC
  refine ks_wpAny_isType_cls hC1 rfl ⟨rfl, ?_⟩
  have hsub : PySem.W.mroIn K C (.ref C) = some true := by
    unfold PySem.W.mroIn
    rw [hcl]
    simp
  refine ks_wpAny_call_super hC1 rfl ho rfl (fun c e => by cases e) (PySem.W.looks_mroIn K1 hsub) (fun h2 e2 k2 => ?_)
  have I2 : Inv (cxS CX P w K mg base N qual scope f (.ref cda) cc A outer s H E) [] (L2.start N (V.ref a :: vs')) H ⟨h2, s.gens, s.drawn, s.toks + (ps.zip (Value.ref a :: ur)).length, s.os⟩ := I.kept k2
  have K2 : K.In h2 := I2.kIn
  have hne : a ≠ C := by
    rintro rfl
    rw [hC1] at ho
    cases ho
  have I2a : PySem.W.InstAt h2 a _ C none := ⟨k2 _ _ ho, rfl, rfl, trivial⟩
  have hal : PySem.W.alongIn K "__init__" ((((Value.ref C) :: bm).dropWhile (· != .ref C)).drop 1) = some (some (.builtin "ValueError.__init__")) := by
    have := hsi
    unfold PySem.W.ks_superIn at this
    rw [hcl] at this
    exact this
  refine PySem.W.kxs_getMethod PySem.W.kxs_ValueError e2 (PySem.W.looks_opaque K2 hop) (l₀ := .ref C :: bm) (fun A Q E s k q => wpAny_bind ((PySem.W.looks_clsIn K2 hcl) A _ E s k (wpAny_pure q))) rfl K2 hal (I2a.type.andThen (PySem.W.looks_subIn K2 hB)) hne (by decide) ?_
  have k3 : ∀ b o, h2.get? b = some o → (h2.push (PySem.W.kxs_mw "ValueError.__init__" a)).get? b = some o := fun b o e => Heap.get?_push_of_some _ e
  have I3 : Inv (cxS CX P w K mg base N qual scope f (.ref cda) cc A outer s H E) [] (L2.start N (V.ref a :: vs')) H ⟨h2.push (PySem.W.kxs_mw "ValueError.__init__" a), s.gens, s.drawn, s.toks + (ps.zip (Value.ref a :: ur)).length + 1, s.os⟩ := I2.kept k3
  have hu3 : (h2.push (PySem.W.kxs_mw "ValueError.__init__" a)).get? h2.objs.size = some (PySem.W.kxs_mw "ValueError.__init__" a) := Heap.get?_push_at rfl rfl
  have ha : PA (cxS CX P w K mg base N qual scope f (.ref cda) cc A outer s H E) [.Constant (.str msg) z pz] (tCons (tC (.str msg)) tNil) := pa_cons pe_str pa_nil
  have I3' : Inv (cxS CX P w K mg base N qual scope f (.ref cda) cc A outer s H E) [(h2.objs.size, PySem.W.kxs_mw "ValueError.__init__" a)] (L2.start N (V.ref a :: vs')) H ⟨h2.push (PySem.W.kxs_mw "ValueError.__init__" a), s.gens, s.drawn, s.toks + (ps.zip (Value.ref a :: ur)).length + 1, s.os⟩ :=
    I3.pins_of fun p hp => by
      obtain rfl := List.mem_singleton.mp hp
      exact ⟨hu3, I2.hok.fresh (Nat.le_refl _), Nat.ne_of_gt I2.lt, I2.nofs (Nat.le_refl _), fun v e => by cases e⟩
  refine PySem.W.kxs_callWith (i := "ValueError.__init__") (x := a) (u := h2.objs.size) rfl (evalArgs_plain (thn (ha.run p3 _ _ _ H (fun vs H1 => vs = [.str msg] ∧ H1 = H) I3' ⟨rfl, rfl⟩) fun us1 s4 ⟨vs4, H4, I4, r4, e4, e5⟩ => ?_))
  subst e4
  rw [e5] at I4
  have hu4 : s4.heap.get? h2.objs.size = some (PySem.W.kxs_mw "ValueError.__init__" a) := (I4.pin (h2.objs.size, PySem.W.kxs_mw "ValueError.__init__" a) (List.mem_append_right _ (List.mem_singleton_self _))).1
  refine ⟨hu4, ?_⟩
  obtain ⟨t4, ho4⟩ := exo_at I4.hok ea
  obtain ⟨h4, g4, d4, tk4, os4⟩ := s4
  have hlen : us1.length ≤ sizeLine := by
    rw [← Paired.length r4, sizeLine_eq]
    exact (show 1 ≤ 16777216 by decide)
  refine call_mw F.excBase_ValueError (I4.kIn _ _ hC) ho4 hu4 (by simpa using hlen) fun h5 t5 k5 hx5 => ?_
  have J := I4.unpinned (pins := []) |>.write (t' := tk4) (x := a) (e := a) (o := exo a C none) (by rw [ea]; exact True.intro) (.inl rfl) k5 ⟨_, hx5⟩ (exo_ok hx5)
  have eu : upd H a (exo a C none) = H := by
    funext b
    by_cases hb : b = a
    · rw [hb, upd_same, ea]
    · rw [upd_ne hb]
  rw [eu] at J
  refine wpAt_of_wpAny (wpAny_mono (ht.run [] _ (L2.start N (V.ref a :: vs')) H _ J hq) (fun fl s' hs => ?_) fun e s' hs => hs)
  have fin : ∀ {σ' : L2.St} {H' : Hp} {v : V} {u : Value}, Inv (cxS CX P w K mg base N qual scope f (.ref cda) cc A outer s H E) [] σ' H' s' → RelV v u → Q v H' → CE outer P w H s Q u s' :=
    fun {σ' H' v u} J rv q => ⟨v, H', J.os, J.bare, J.base, J.hok, rv, q⟩
  cases fl with
  | ret u =>
    obtain ⟨v, σ', H', J, rv, q⟩ := hs
    exact fin J rv q
  | next =>
    obtain ⟨σ', H', J, q⟩ := hs
    exact fin (v := V.non) (u := Value.none) J rfl q
  | brk =>
    obtain ⟨_, _, _, q⟩ := hs
    exact False.elim q
  | cont =>
    obtain ⟨_, _, _, q⟩ := hs
    exact False.elim q
end QL
set_option Elab.async false
set_option linter.all false
set_option maxRecDepth 100000
set_option maxHeartbeats 4000000
/-! QX2: raise of an own exception, over plain data. -/
namespace QL
open PySem L2

/-- what an __init__ with plain stores keeps: ns the fields in the order of the stores -/
def spI (C : Addr) (ns : List Str) : Sp := fun vs H Q _ => ∃ (a : Addr) (ws : List V), vs = .ref a :: ws ∧ ws.length = ns.length ∧ H a = some (exo a C none) ∧
  ∀ dx, H dx = none → dx ≠ a → Q .non (upd (upd H dx (exd dx (ns.zip ws).reverse)) a (exo a C (some dx)))
/-- a class of the module that is made with n arguments -/
def MkQ (P : Program) (w : World) (K : PySem.W.Frag) (mg : Str → Option Value) (base : Heap) (k : Nat) (x : Str) (ns : List Str) : Prop :=
  ∃ fI fd ps, OexC K (clsA K x) ∧ PySem.W.findIn K (.ref (clsA K x)) "__init__" = some (some (.ref fI)) ∧ PySem.W.typeIn K (.ref fI) = some (.type "function") ∧ FnOk P w K mg base (L2.CX P w) k fI fd ps (spI (clsA K x) ns) ∧ Binds K fd ps [] ∧ mg x = some (.ref (clsA K x))
section
variable {X : Cx} {W : WX} {e : Expr} {es : List Expr} {ws : WA} {pos q pos' : Pos} {x : Str} {k j : Nat} {ns : List Str}
def kRaise (x : Str) (ns : List Str) (D : ED) (σ : SS) (vs : List P) (l : LS) : Prop := ∃ ds, asDs vs = some ds ∧ ds.length = ns.length ∧ ns.length ≤ 1000 ∧ D.ex (.own x ns.reverse ds.reverse) σ l
def wRaise (x : Str) (ns : List Str) (ws : WA) (D : ED) (σ : SS) (l : LS) : Prop := ws σ l (kRaise x ns D σ) (exK D σ)
theorem zip_rev {α β : Type} : ∀ {xs : List α} {ys : List β}, ys.length = xs.length → (xs.zip ys).reverse = xs.reverse.zip ys.reverse
  | [], [], _ => rfl
  | x :: xs, y :: ys, h => by
    have h' : ys.length = xs.length := by simpa using h
    rw [List.zip_cons_cons, List.reverse_cons, List.reverse_cons, List.reverse_cons, zip_rev h', List.zip_append (by simp [h'])]
    rfl
theorem qs_raise (hc : X.calm = true) (c : MkQ X.prog X.w X.K X.mg X.base k x ns) (hr : Room j X.A) (hk : k + 1 ≤ j) (tk : Takes X W) (hg : Gl X x) (ha : QA X W (e :: es) ws)
    (hdb : (x == ("__debug__" : Str)) = false := by decide) (he : starEach (e :: es) X.env = (false, eval e X.env) :: starEach es X.env := by rfl) (hpl : (backTo pos (starEach es X.env)).any (·.1) = false := by rfl) :
    QS X W (.Raise (some (.Call (.Name x q) (e :: es) [] pos)) none pos') (wRaise x ns ws) := by
  obtain ⟨fI, fd, ps, T, iC, tI, F1, hb, hm⟩ := c
  refine PS.imp (ps_raise hc tk (pmk_oex T iC tI F1 (hr.mono hk) hb .nil (passes_call tk fun _ _ _ _ z => z.elim) hg hm ha hdb he hpl)) fun D σ H h => ?_
  obtain ⟨p, σd, l, Dd, hH, R, hw, kk⟩ := h
  subst hH
  refine cA_ok R hw kk.link fun vs l1 us p1 e1 R1 r1 ⟨ds, eds, hl, hn, q⟩ => ?_
  have rd := asDs_ok r1 eds
  have hul : us.length = ns.length := by rw [← rd.len, hl]
  refine ⟨by rw [hul]; exact hn, fun a hna => ⟨a, us ++ [], rfl, by rw [List.append_nil]; exact hul, upd_same, fun dx hd hne => ?_⟩⟩
  have hd1 : p1.H dx = none := by rw [upd_ne hne] at hd; exact hd
  rw [List.append_nil]
  refine ⟨rfl, dx, (ns.zip us).reverse, upd_same, by rw [upd_ne hne, upd_same], hd1, ?_⟩
  have eH : upd (del (upd (upd (upd p1.H a (exo a (clsA X.K x) none)) dx (exd dx (ns.zip us).reverse)) a (exo a (clsA X.K x) (some dx))) a) dx (.xd (ns.zip us).reverse) = (p1.frz dx (.xd (ns.zip us).reverse)).H := by
    funext b
    show upd _ _ _ b = upd p1.H dx _ b
    by_cases hb : b = dx
    · rw [hb, upd_same, upd_same]
    · rw [upd_ne hb, upd_ne hb]
      by_cases hba : b = a
      · rw [hba, del_same, hna]
      · rw [del_ne hba, upd_ne hba, upd_ne hb, upd_ne hba]
  rw [eH]
  have e2 := ext_frz (p := p1) (o := .xd (ns.zip us).reverse) hd1
  have w2 := wf_frz (p := p1) (a := dx) (o := .xd (ns.zip us).reverse) R1.wf
  have R2 := R1.ext e2 w2 (Cells.frz R1.wf R1.ce hd1)
  refine kk.ex (p1.frz dx (.xd (ns.zip us).reverse)) σ σd l1 (.own x ns.reverse ds.reverse) _ _ (e1.trans e2) R2 ⟨rfl, dx, us.reverse, rfl, .inr rfl, ?_, (rd.mono e2.hf).reverse⟩ q
  show upd _ _ _ _ = _
  rw [upd_same, zip_rev hul]
end
end QL
set_option Elab.async false
set_option linter.all false
set_option maxRecDepth 100000
set_option maxHeartbeats 4000000
/-! QX3: the __init__ of an own exception class with one or two stores. -/
namespace QL
open PySem L2

/-- what of K's objects such an __init__ needs; st is the def's statement -/
structure SupI (P : Program) (K : PySem.W.Frag) (mg : Str → Option Value) (C : Addr) (st : Stmt) (qual : Str) (f : Addr) (fd : FuncData) : Prop where
  ex : ∃ (oc : Value) (od : Option Addr) (kV doc pm : Value) (an : Option Addr) (cda cc : Addr) (ct : Value) (osl : Array (Option Value)) (ccl cl : Value) (cdd cld : Option Addr) (ccs csl : Array (Option Value)) (vs0 : Array Value) (file : Str) (tf : Tok),
    fd = PySem.W.ksFn "__init__" qual (defArgs st) (defBody st) (defScope st) .none kV doc pm an (.ref cda) ct cc ∧ K.lookup f = some ⟨oc, od, .func fd, osl⟩ ∧ PySem.W.codeIn K (.ref cda) qual = true ∧
    K.lookup cda = some ⟨ccl, cdd, .fields vs0, ccs⟩ ∧ vs0[2]? = some (.str file tf) ∧ ((P.main.file : Str) == file) = true ∧ K.lookup cc = some ⟨cl, cld, .cell (some (.ref C)), csl⟩
  htop : (P.main.scope.names.lookup ("super" : Str)).isSome = false
  T : OexC K C
  hsi : PySem.W.ks_superIn K C C "__init__" = some (some (.builtin "ValueError.__init__"))
  hB : PySem.W.subIn K (.ref C) (.type "ValueError") = some true
  hop : PySem.W.nsIn K cStatics "thirdparty.any" = some none
  hmg : mg "super" = none
/-- what is read off the def's text -/
structure SupT (st : Stmt) (N ps : List Str) (rest : List Stmt) : Prop where
  bd : ∃ (p0 p1 p2 p3 p4 pz : Pos) (msg : Str) (z : Nat), defBody st = .Expr (.Call (.Attribute (.Call (.Name "super" p0) [] [] p1) "__init__" p2) [.Constant (.str msg) z pz] [] p3) p4 :: rest ∧
    (∀ env : Env, ∃ pl : Sem Bool, eval (.Call (.Attribute (.Call (.Name "super" p0) [] [] p1) "__init__" p2) [.Constant (.str msg) z pz] [] p3) env = (do
      let ov ← attributeBase (.Call (.Name "super" p0) [] [] p1) "__init__" env (eval (.Call (.Name "super" p0) [] [] p1) env)
      standAt p2.atName
      let (f, first) ← holding [ov] (getMethod ov "__init__" pl)
      callWith p3 f first (backTo p3 (starEach [.Constant (.str msg) z pz] env)) []))
  S : SupScope N ps (defScope st)
  ar : ∃ ar, ((defArgs st).posonlyargs ++ (defArgs st).args).head? = some ar ∧ ps[0]? = some ar.arg
section
variable {P : Program} {w : World} {K : PySem.W.Frag} {mg : Str → Option Value} {base : Heap} {C f : Addr} {fd : FuncData} {st : Stmt} {qual a1 a2 n1 n2 : Str} {q1 q2 q3 q4 r1 r2 r3 r4 : Pos}
theorem fn_sup {N ps : List Str} {rest : List Stmt} {sp : Sp} {k : Nat} (F : SupI P K mg C st qual f fd) (G : SupT st N ps rest) (len : ∀ vs H Q E, sp vs H Q E → vs.length = ps.length)
    (hbody : ∀ (cda cc : Addr) (A : Around) (outer : List Env) (s : Shared) (H : Hp) (vs : List V) (Q : VK) (E : XK), Room k (A.deeper (PySem.W.ksEnv qual (defScope st) s.heap.objs.size f (.ref cda) cc)) → sp vs H Q E →
      (∃ a vs', vs = .ref a :: vs' ∧ H a = some (exo a C none)) ∧ ∃ t, PSs (cxS (L2.CX P w) P w K mg base N qual (defScope st) f (.ref cda) cc A outer s H E) rest t ∧ t { nx := fun _ H' => Q .non H', rt := Q } (L2.start N vs) H) :
    FnOk P w K mg base (L2.CX P w) (k + 1) f fd ps sp := by
  obtain ⟨oc, od, kV, doc, pm, an, cda, cc, ct, osl, ccl, cl, cdd, cld, ccs, csl, vs0, file, tf, rfl, lk, hcd, hcode, hvs, hfile, hcell⟩ := F.ex
  obtain ⟨p0, p1, p2, p3, p4, pz, msg, z, eb, hev⟩ := G.bd
  obtain ⟨ar, hp, h0⟩ := G.ar
  rw [eb] at lk ⊢
  exact fn_super lk hcd hcode hvs hfile F.htop hcell F.T F.hsi F.hB F.hop F.hmg hev G.S hp h0 len fun A outer s H vs Q E hr h => hbody cda cc A outer s H vs Q E hr h
theorem init1 (F : SupI P K mg C st qual f fd) (G : SupT st ["self", a1] ["self", a1] [.Assign [.Attribute (.Name "self" q1) n1 q2] (.Name a1 q3) q4]) (h1 : PySem.W.findIn K (.ref C) n1 = some none)
    (d1 : (a1 == ("__debug__" : Str)) = false) (c1 : (a1 == ("__classdict__" : Str)) = false) : FnOk P w K mg base (L2.CX P w) 1 f fd ["self", a1] (spI C [n1]) := by
  refine fn_sup F G (fun vs H Q E h => ?_) fun cda cc A outer s H vs Q E hr h => ?_
  · obtain ⟨a, ws, rfl, hl, _⟩ := h
    simp [hl]
  · obtain ⟨a, ws, rfl, hl, ea, q⟩ := h
    obtain ⟨v, rfl⟩ : ∃ v, ws = [v] := by
      match ws, hl with
      | [v], _ => exact ⟨v, rfl⟩
    have vs0 : Vis (defScope st) "self" := .inl (G.S.par _ List.mem_cons_self)
    have vs1 : Vis (defScope st) a1 := .inl (G.S.par _ (List.mem_cons_of_mem _ List.mem_cons_self))
    refine ⟨⟨a, _, rfl, ea⟩, _, pss_one (ps_ost (pe_var (i := 0) rfl vs0) (pe_var (i := 1) rfl vs1 d1 c1)), ?_⟩
    refine ⟨v, rfl, .ref a, rfl, a, C, rfl, F.T, h1, .inl ⟨ea, fun dx hd hne => ?_⟩⟩
    exact q dx hd hne
theorem init2 (F : SupI P K mg C st qual f fd) (G : SupT st ["self", a1, a2] ["self", a1, a2] [.Assign [.Attribute (.Name "self" q1) n1 q2] (.Name a1 q3) q4, .Assign [.Attribute (.Name "self" r1) n2 r2] (.Name a2 r3) r4])
    (h1 : PySem.W.findIn K (.ref C) n1 = some none) (h2 : PySem.W.findIn K (.ref C) n2 = some none)
    (d1 : (a1 == ("__debug__" : Str)) = false) (c1 : (a1 == ("__classdict__" : Str)) = false) (d2 : (a2 == ("__debug__" : Str)) = false) (c2 : (a2 == ("__classdict__" : Str)) = false) : FnOk P w K mg base (L2.CX P w) 1 f fd ["self", a1, a2] (spI C [n1, n2]) := by
  refine fn_sup F G (fun vs H Q E h => ?_) fun cda cc A outer s H vs Q E hr h => ?_
  · obtain ⟨a, ws, rfl, hl, _⟩ := h
    simp [hl]
  · obtain ⟨a, ws, rfl, hl, ea, q⟩ := h
    obtain ⟨v, u, rfl⟩ : ∃ v u, ws = [v, u] := by
      match ws, hl with
      | [v, u], _ => exact ⟨v, u, rfl⟩
    have vs0 : Vis (defScope st) "self" := .inl (G.S.par _ List.mem_cons_self)
    have vs1 : Vis (defScope st) a1 := .inl (G.S.par _ (List.mem_cons_of_mem _ List.mem_cons_self))
    have vs2 : Vis (defScope st) a2 := .inl (G.S.par _ (List.mem_cons_of_mem _ (List.mem_cons_of_mem _ List.mem_cons_self)))
    refine ⟨⟨a, _, rfl, ea⟩, _, pss_cons (ps_ost (pe_var (i := 0) rfl vs0) (pe_var (i := 1) rfl vs1 d1 c1)) (pss_one (ps_ost (pe_var (i := 0) rfl vs0) (pe_var (i := 2) rfl vs2 d2 c2))), ?_⟩
    refine ⟨v, rfl, .ref a, rfl, a, C, rfl, F.T, h1, .inl ⟨ea, fun dx hd hne => ?_⟩⟩
    refine ⟨u, rfl, .ref a, rfl, a, C, rfl, F.T, h2, .inr ⟨dx, [(n1, v)], upd_same, by rw [upd_ne hne, upd_same], by simp, ?_⟩⟩
    have := q dx hd hne
    have e : upd (upd (upd H dx (exd dx [(n1, v)])) a (exo a C (some dx))) dx (exd dx [(n2, u), (n1, v)]) = upd (upd H dx (exd dx ([n1, n2].zip [v, u]).reverse)) a (exo a C (some dx)) := by
      funext b
      by_cases hb : b = dx
      · rw [hb, upd_same, upd_ne hne, upd_same]
        rfl
      · rw [upd_ne hb]
        by_cases hba : b = a
        · rw [hba, upd_same, upd_same]
        · rw [upd_ne hba, upd_ne hba, upd_ne hb, upd_ne hb]
    rw [e]
    exact this
end
end QL
set_option Elab.async false
set_option linter.all false
set_option maxRecDepth 100000
set_option maxHeartbeats 4000000
/-! QX4: try .. except C as n, the caught exception's fields. -/
namespace QL
open PySem L2
section
variable {X : Cx} {W : WX} {x n : Str} {c : Value} {i : Nat} {body suite : List Stmt} {b₀ : Stmt} {np pos pos' : Pos} {wb : WS} {wsu : Addr → Value → Option Addr → WS} {m : Str → Option Bool}
def noXD (_ : Ex) (_ : SS) (_ : LS) : Prop := False
def kDel (i : Nat) (Q : SS → LS → Prop) (σ : SS) (l : LS) : Prop := Q (σ.set i none) l
def dSu (i : Nat) (D : ED) : ED := { nx := kDel i D.nx, rt := D.rt, bk := kDel i D.bk, ct := kDel i D.ct, ex := noXD }
def kCatch (i : Nat) (m : Str → Option Bool) (wsu : Addr → Value → Option Addr → WS) (D : ED) (ex : Ex) (σ : SS) (l : LS) : Prop := match ex with
  | .own x ns xs => (m x = some true ∧ ∀ a cls d, wsu a cls d (dSu i D) (σ.set i (some (.exc a cls d (.own x ns xs)))) l) ∨ (m x = some false ∧ D.ex (.own x ns xs) σ l)
  | .blt _ => False
def wTry (i : Nat) (m : Str → Option Bool) (wb : WS) (wsu : Addr → Value → Option Addr → WS) (D : ED) (σ : SS) (l : LS) : Prop := wb { nx := D.nx, rt := D.rt, bk := D.bk, ct := D.ct, ex := kCatch i m wsu D } σ l
theorem Rel.setNone {K : PySem.W.Frag} {p : Pt} {σ : St} {σd : SS} {l : LS} {i : Nat} (R : Rel K p σ σd l) : Rel K p (σ.set i none) (σd.set i none) l := ⟨R.wf, R.sl.setNone, R.ce⟩
theorem qs_try_as (hs : X.stack = X.env :: X.outer) (hf : X.env.frame = some X.env.locals) (hN : X.N.Nodup) (hi : X.N[i]? = some n) (hln : X.env.kindOf n = some .local) (hc : Names X x c) (tk : Takes X W)
    (hm : ∀ y b, m y = some b → PySem.W.exmOne X.K (.ref (clsA X.K y)) c = some b)
    (hb : ∀ (W' : WX) (pn : List (Addr × Obj)) (xe : Value → Shared → Prop), Takes (X.tr pn xe) W' → PassesOwn (model X.prog X.w) X.A X.env xe → QSs (X.tr pn xe) W' body wb)
    (hsu : ∀ (a : Addr) (oe : Obj) (cls : Value) (d : Option Addr) (pn : List (Addr × Obj)), Zc cls d oe → (∃ vs, oe.data = .fields vs) → QSs (X.suite a ((a, oe) :: pn)) (fun _ _ _ _ => False) (b₀ :: suite) (wsu a cls d)) :
    QS X W (.Try body [.ExceptHandler (some (.Name x np)) (some n) (b₀ :: suite) pos'] [] [] pos) (wTry i m wb wsu) := by
  refine PS.imp (ps_try_as (tb := fun W' => cS X.K W' wb) (ts := fun a cls d => cS X.K (fun _ _ _ _ => False) (wsu a cls d)) hs hf hN hi hln hc tk hb hsu) fun D σ H ⟨p, σd, l, Dd, hH, R, hw, kk⟩ => ?_
  subst hH
  refine cS_ok R hw ⟨kk.nx, kk.bk, kk.ct, kk.rt, fun p1 σ1 σd1 l1 ex cls dd e1 R1 xr q => ?_⟩
  cases ex with
  | blt _ => exact q.elim
  | own y ns xs =>
    have ec : cls = .ref (clsA X.K y) := xr.1
    subst ec
    rcases q with ⟨h, q⟩ | ⟨h, q⟩
    · refine ⟨true, hm _ _ h, fun _ a na => ?_, fun z => absurd z (by decide)⟩
      have R2 : Rel X.K p1 (σ1.set i (some (.ref a))) (σd1.set i (some (.exc a (.ref (clsA X.K y)) dd (.own y ns xs)))) l1 := R1.set (d := .exc a (.ref (clsA X.K y)) dd (.own y ns xs)) ⟨rfl, xr⟩
      exact cS_ok R2 (q a _ dd) ⟨fun p2 σ2 σd2 l2 e2 r2 q2 => kk.nx p2 _ _ l2 (e1.trans e2) r2.setNone q2, fun p2 σ2 σd2 l2 e2 r2 q2 => kk.bk p2 _ _ l2 (e1.trans e2) r2.setNone q2, fun p2 σ2 σd2 l2 e2 r2 q2 => kk.ct p2 _ _ l2 (e1.trans e2) r2.setNone q2,
        fun p2 d v l2 e2 w2 c2 r2 q2 => kk.rt p2 d v l2 (e1.trans e2) w2 c2 r2 q2, fun _ _ _ _ _ _ _ _ _ _ z => z.elim⟩
    · exact ⟨false, hm _ _ h, fun z => absurd z (by decide), fun _ => kk.ex p1 σ1 σd1 l1 _ _ dd e1 R1 xr q⟩
/-! ### its fields -/
def kXf (a : Addr) (cls : Value) (d : Option Addr) (L : List Str) (f : Str) (Q : P → LS → Prop) (v : P) (l : LS) : Prop := ∃ x ns xs y, v = .exc a cls d (.own x ns xs) ∧ x ∈ L ∧ (ns.zip xs).lookup f = some y ∧ Q (.d y) l
def wXf (a : Addr) (cls : Value) (d : Option Addr) (L : List Str) (f : Str) (we : WE) (σ : SS) (l : LS) (Q : P → LS → Prop) (E : EK) : Prop := we σ l (kXf a cls d L f Q) E
theorem rds_look {K : PySem.W.Frag} {p : Pt} {f : Str} : ∀ {ns : List Str} {xs : List D} {vs : List V} {y : D}, RDs K p xs vs → (ns.zip xs).lookup f = some y → ∃ v, (ns.zip vs).lookup f = some v ∧ RD K p y v
  | [], _, _, _, _, h => by simp at h
  | _ :: _, [], _, _, _, h => by simp at h
  | n :: ns, x :: xs, _, y, .cons r t, h => by
    rw [List.zip_cons_cons, List.lookup_cons] at h ⊢
    by_cases e : f == n
    · rw [e] at h ⊢
      cases h
      exact ⟨_, rfl, r⟩
    · rw [Bool.not_eq_true] at e
      rw [e] at h ⊢
      exact rds_look t h
theorem qe_xf {a : Addr} {oe : Obj} {cls : Value} {d : Option Addr} {pn : List (Addr × Obj)} {e : Expr} {we : WE} {L : List Str} {f : Str} (hL : ∀ y ∈ L, XfC X.K (clsA X.K y) ∧ PySem.W.findIn X.K (.ref (clsA X.K y)) f = some none)
    (hz : Zc cls d oe) (hf : ∃ vs, oe.data = .fields vs) (he : QE (X.suite a ((a, oe) :: pn)) W e we) (hb : attributeBase e f X.env (eval e X.env) = eval e X.env := by rfl) :
    QE (X.suite a ((a, oe) :: pn)) W (.Attribute e f pos) (wXf a cls d L f we) := by
  refine ⟨fun pins s σ H Q I h => ?_⟩
  obtain ⟨p, σd, l, Qd, Ed, hH, R, hw, kk, lk⟩ := h
  subst hH
  refine attr_of hb (thn (he.run pins s σ _ (fun v H1 => ∃ (p1 : Pt) (l1 : LS) (r : P), p1.H = H1 ∧ Ext p p1 ∧ Rel X.K p1 σ σd l1 ∧ RP X.K p1 r v ∧ kXf a cls d L f Qd r l1) I (cE_ok R hw lk fun r l1 v p1 e1 R1 r1 q1 => ⟨p1, l1, r, rfl, e1, R1, r1, q1⟩)) fun u s1 hh => ?_)
  obtain ⟨v, H1, I1, ru, p1, l1, r, rfl, e1, R1, r1, x, ns, xs, y, rfl, hx, hy, q⟩ := hh
  obtain ⟨T, hno⟩ := hL x hx
  obtain ⟨rfl, rfl, dd, vs, rfl, hF, hd, rds⟩ := r1
  obtain rfl : u = Value.ref a := ru
  obtain ⟨ha, _⟩ := I1.pin (a, oe) (List.mem_append_left _ List.mem_cons_self)
  obtain ⟨vs0, hd0⟩ := hf
  have hx : ObjOk X.prog X.w p1.H s1.heap dd (.xd (ns.zip vs)) := I1.hok dd _ hd
  obtain ⟨mA, hns, hr⟩ := hx
  obtain ⟨od, ho, hl⟩ := lookIn_ns hns
  obtain ⟨v, hv, rv⟩ := rds_look rds hy
  obtain ⟨u, hu, ru⟩ := RelO.some_of (v := v) (o := mA f) (by rw [← hv]; exact hr f)
  have J : PySem.W.InstAt s1.heap a oe (clsA X.K x) (some od) := ⟨ha, hz.1, by unfold PySem.W.notCls; rw [hd0] <;> rfl, by rw [hz.2]; exact ho⟩
  exact HandSPX.exc_get I1.kIn J T.ga T.gg T.exC (PySem.W.findObj_own T.hdC hno rfl (by rw [hl, hu])) (handed_of ru) ⟨v, p1.H, I1.tok _, ru, kk (.d y) l1 v p1 e1 R1 rv q⟩
end
end QL
set_option Elab.async false
set_option linter.all false
set_option maxRecDepth 100000
set_option maxHeartbeats 4000000
/-! QX5: isinstance of a caught exception. -/
namespace PySem.W
open PySem PySem.Calls PyProof.Rows
section
variable {prog : Program} {w : World} {A : Around} {E : Value → Shared → Prop} {s : Shared} {K : Frag} {x D : Addr} {ox : Obj} {od : Option Obj}
theorem q_findObj {C : Addr} {name : Str} {a g : Value} (hc : (clsIn K C).isSome = true) (ha : findIn K (.ref C) name = some (some a)) (hg : specialIn K a "__get__" = some (some g)) (ht : takesIn K a = some true) : findObj K C od name = some (.bind g a) := by
  obtain ⟨cd, hc⟩ := Option.isSome_iff_exists.mp hc
  unfold findObj
  rw [hc, Option.bind_some, ha, Option.bind_some]
  simp [hg, ht]
theorem q_class {Q : Option Value → Shared → Prop} (T : L2.ExcC K D)
    (X : K.In s.heap) (I : InstAt s.heap x ox D od) (h : Q (some (.ref D)) { s with toks := s.toks + 1 }) : wpAny (model prog w) A (getAttr? (.ref x) "__class__") Q E s := by
  have hf : findObj K D od "__class__" = some (.bind (.builtin "getset_descriptor.__get__") (.builtin "object.__class__")) := q_findObj (by obtain ⟨cd, hc, _⟩ := any_some T.hd; rw [hc]; rfl) T.ha T.hn T.ht
  obtain ⟨hp, g, d, t, os⟩ := s
  have L0 := I.type (M := model prog w)
  have L1 := looks_findIn (M := model prog w) X T.hg
  have L2 := looks_findIn (M := model prog w) X T.hk
  have L3 := looks_find (M := model prog w) X I hf
  have sub : Looks (model prog w) hp (isInstance (.ref x) (.type "BaseException")) true := L0.andThen (looks_subIn X T.hs)
  have hx0 : (false && onTheHeap (Value.builtin "BaseException.__getattribute__")) = false := rfl
  have hx2 : (Value.builtin "BaseException.__getattribute__" == Value.builtin "object.__getattribute__") = false := by decide +kernel
  have hx1 : (onTheHeap (Value.ref D) && Value.builtin "BaseException.__getattribute__" == Value.builtin "object.__getattribute__") = false := by rw [hx2]; rfl
  unfold getAttr? getAttrBy? getAttrBy
  refine wpAny_bind (wpAny_mkText (wpAny_bind (wpAny_attempt (wpAny_holding (wpAny_bind (L0.at (wpAny_bind (L1.at ?_))))))))
  show wpAny _ _ (if (onTheHeap (Value.ref D) && Value.builtin "BaseException.__getattribute__" == Value.builtin "object.__getattribute__") = true then _ else _) _ _ _
  rw [hx1, if_neg Bool.false_ne_true]
  unfold getAttrByItsOwn hookBefore
  refine wpAny_bind ?_
  rw [if_pos (show onTheHeap (Value.ref D) = true from rfl)]
  refine L2.at ?_
  refine wpAny_bind (wpAny_attempt (wpAny_holding ?_))
  unfold callGetattribute
  rw [hx0, if_neg Bool.false_ne_true]
  unfold boundAndCalled
  rw [PySem.F.excAttr_ValueError.ga.bind (.ref x)]
  refine wpAny_bind (wpAny_pure ?_)
  show wpAny _ _ (call (.builtin "BaseException.__getattribute__") [.ref x, .str "__class__" t]) _ _ _
  refine wpAny_call (codeAny_call_builtin PySem.F.excAttr_ValueError.ga.plain PySem.F.entry_bexc_ga ?_)
  refine @check_slot (model prog w) _ _ ⟨hp, g, d, t + 1, os⟩ "BaseException.__getattribute__" "BaseException" "__getattribute__" (.ref x) [.str "__class__" t] [] _ (by decide +kernel) (by decide +kernel) sub (PySem.F.args_bexc_ga (.ref x) (.str "__class__" t)) ?_
  unfold Builtin.«object.__getattribute__»
  refine wpAny_bind (wpAny_of_eq (a := ((Value.ref x : Value), [Value.str "__class__" t])) (by first | rfl | (simp only [slotArgs]; rfl)) ?_)
  refine wpAny_bind (wpAny_pure (wpAny_bind (L0.at (wpAny_bind (L3.at ?_)))))
  show wpAny _ _ (holding [Value.builtin "object.__class__"] (call (.builtin "getset_descriptor.__get__") [.builtin "object.__class__", .ref x, .ref D]) >>= ret) _ _ _
  refine wpAny_bind (wpAny_holding (wpAny_call (class_get (s := ⟨hp, g, d, t + 1, os⟩) (ox := ox) (od := od) X I T.hm ?_)))
  refine wpAny_pure ?_
  show wpAny _ _ (handedOut (.ref D)) _ _ _
  rw [handedOut_of (v := .ref D) rfl]
  first
    | exact wpAny_pure (wpAny_pure h)
    | exact wpAny_pure h
    | exact wpAny_pure (wpAny_bind (wpAny_pure (wpAny_pure h)))
theorem q_kit (T : L2.ExcC K D) : KitX K (.ref x) (.ref D) (fun h => InstAt h x ox D od) where
  ty := fun _ _ _ I => I.type
  it := fun _ _ X _ => by
    obtain ⟨cdD, hcD, _⟩ := any_some T.hd
    unfold clsIn at hcD
    split at hcD
    · rename_i c' d' cd' sl' ho
      intro A' Q' E' s' k q
      unfold isType loadHead
      exact wpAny_bind (wpAny_loadPart (k _ _ (X _ _ ho)) (wpAny_pure q))
    · cases hcD
  ne := fun h tp dd its n sl X htp => by
    obtain ⟨cdD, hcD, _⟩ := any_some T.hd
    refine Bool.eq_false_iff.mpr fun q => ?_
    have e : D = tp := Value.ref.inj (beq_iff_eq.mp q)
    subst e
    unfold clsIn at hcD
    split at hcD
    · rename_i c' d' cd' sl' ho
      have z := (X _ _ ho).symm.trans htp
      cases z
    · cases hcD
  ca := fun X I k => q_class T X I k
end
end PySem.W
namespace QL
open PySem L2
/-- isinstance(e, c), e the exception that the suite holds; m tells the answers -/
def rIsX (K : PySem.W.Frag) (L : List Str) (m : Str → Bool) (cv : Value) (a : Addr) (cls : Value) (d : Option Addr) : List V → Hp → VK → Prop := fun xs H Q => ∃ (c : V) (y : Str) (dd : Addr) (fs : List (Str × V)), xs = [.ref a, c] ∧ (∀ u, RelV c u → u = cv) ∧
  y ∈ L ∧ cls = .ref (clsA K y) ∧ d = some dd ∧ H dd = some (.xd fs) ∧ Q (.bl (m y)) H
theorem call_isX {X : Cx} {a : Addr} {oe : Obj} {cls cv : Value} {d : Option Addr} {pn : List (Addr × Obj)} {L : List Str} {m : Str → Bool} (hL : ∀ y ∈ L, ExcC X.K (clsA X.K y) ∧ PySem.W.kitOne X.K (.ref (clsA X.K y)) cv = some (m y))
    (hz : Zc cls d oe) (hf : ∃ vs, oe.data = .fields vs) : CallR (X.suite a ((a, oe) :: pn)) (.builtin "isinstance") (rIsX X.K L m cv a cls d) := by
  intro pins s σ H xs us Q I r h
  obtain ⟨c, y, dd, fs, rfl, hcv, hy, rfl, rfl, hd, q⟩ := h
  obtain ⟨C, e⟩ := hL y hy
  cases r with
  | cons rx rr =>
    cases rr with
    | cons rt rr =>
      cases rr
      cases rx
      have ec := hcv _ rt
      subst ec
      obtain ⟨hget, _⟩ := I.pin (a, oe) (List.mem_append.mpr (.inl List.mem_cons_self))
      obtain ⟨vs, hv⟩ := hf
      have hx : ObjOk X.prog X.w H s.heap dd (.xd fs) := I.hok dd _ hd
      obtain ⟨mA, hns, hr⟩ := hx
      obtain ⟨od, ho, hl⟩ := lookIn_ns hns
      have J : PySem.W.InstAt s.heap a oe (clsA X.K y) (some od) := ⟨hget, hz.1, by unfold PySem.W.notCls; rw [hv] <;> rfl, by rw [hz.2]; exact ho⟩
      exact PySem.W.kia_one (PySem.W.q_kit C) I.kIn J e (fun z => nomatch z) fun tk => ⟨.bl (m y), H, I.kept (t' := tk) fun _ _ z => z, rfl, q⟩
section
variable {X : Cx} {W : WX} {pos q : Pos} {e c : Expr} {we : WE}
def kIsX (L : List Str) (m : Str → Bool) (a : Addr) (cls : Value) (d : Option Addr) (Q : P → LS → Prop) (v : P) (l : LS) : Prop := ∃ y ns xs, v = .exc a cls d (.own y ns xs) ∧ y ∈ L ∧ Q (.d (.bl (m y))) l
def wIsX (L : List Str) (m : Str → Bool) (a : Addr) (cls : Value) (d : Option Addr) (we : WE) (σ : SS) (l : LS) (Q : P → LS → Prop) (E : EK) : Prop := we σ l (kIsX L m a cls d Q) E
theorem qe_isX {a : Addr} {oe : Obj} {cls cv : Value} {cV : V} {d : Option Addr} {pn : List (Addr × Obj)} {L : List Str} {m : Str → Bool} (hL : ∀ y ∈ L, ExcC X.K (clsA X.K y) ∧ PySem.W.kitOne X.K (.ref (clsA X.K y)) cv = some (m y))
    (hz : Zc cls d oe) (hf : ∃ vs, oe.data = .fields vs) (he : QE (X.suite a ((a, oe) :: pn)) W e we) (hc : PE (X.suite a ((a, oe) :: pn)) c (tC cV)) (hcv : ∀ u, RelV cV u → u = cv)
    (hg : Gl (X.suite a ((a, oe) :: pn)) "isinstance") (hm : X.mg "isinstance" = none)
    (hst : starEach (e :: [c]) X.env = (false, eval e X.env) :: starEach [c] X.env := by rfl) (hst2 : starEach [c] X.env = [(false, eval c X.env)] := by rfl) (hpl : (backTo pos (starEach [c] X.env)).any (·.1) = false := by rfl) :
    QE (X.suite a ((a, oe) :: pn)) W (.Call (.Name "isinstance" q) [e, c] [] pos) (wIsX L m a cls d we) := by
  refine PE.imp (pe_callB (call_isX hL hz hf) hg hm (by rfl) (pa_cons he (pa_cons hc pa_nil hst2) hst) (by decide) (by decide) hst hpl) fun σ H Q ⟨p, σd, l, Qd, Ed, hH, R, hw, kk, lk⟩ => ?_
  subst hH
  refine cE_ok R hw lk fun r l1 v p1 e1 R1 r1 ⟨y, ns, xs, er, hy, q⟩ => ?_
  subst er
  obtain ⟨rfl, ec, dd, vs, ed, hF, hd, rds⟩ := r1
  exact ⟨cV, y, dd, _, rfl, hcv, hy, ec, ed, hd, kk (.d (.bl (m y))) l1 _ p1 e1 R1 (RD.bl _) q⟩
end
end QL
set_option Elab.async false
set_option linter.all false
set_option maxRecDepth 100000
set_option maxHeartbeats 4000000
/-! QS1: text and tuple times a number, a sign within a text. -/
namespace L2
open PySem PySem.Spec PyProof.Rows
theorem q_tuple_same (l : Addr) (items : Array Value) (n : Nat) (dd : Option Addr) (sl : Array (Option Value)) (x : Int) (u : Tok) (c0 : (decide (x < -(2 ^ 63)) || decide (x ≥ 2 ^ 63)) = false) (c1 : (items.isEmpty || x == 1) = true) :
    Meets (Builtin.«tuple.__mul__» ⟨[.ref l, .int x u], []⟩) (fun _ R s => s.heap.get? l = some { cls := .type "tuple", dict := dd, data := .seq items n, slots := sl } ∧ R (.ok (.ret (Value.ref l))) s) :=
  .of_wp fun prog w A R s h => by
    obtain ⟨hp, g, d, tk, os⟩ := s
    obtain ⟨hl, h⟩ := h
    have f1 := AutoSeq1.idx_int
    wp_walk using wpAny_loadPart' hl
    repeat (first
      | (refine wpAny_ite_false (decide_eq_false (by rw [c0]; exact Bool.false_ne_true)) ?_; wp_walk using wpAny_loadPart' hl)
      | (refine wpAny_ite_true (decide_eq_true c1) ?_; wp_walk using wpAny_loadPart' hl))
    exact ⟨_, rfl, h⟩
theorem q_tuple_nil (l : Addr) (items : Array Value) (n : Nat) (dd : Option Addr) (sl : Array (Option Value)) (x : Int) (u : Tok) (c0 : (decide (x < -(2 ^ 63)) || decide (x ≥ 2 ^ 63)) = false) (c1 : (items.isEmpty || x == 1) = false) (c2 : (decide (x ≤ 0) || items.isEmpty) = true) :
    Meets (Builtin.«tuple.__mul__» ⟨[.ref l, .int x u], []⟩) (fun _ R s => s.heap.get? l = some { cls := .type "tuple", dict := dd, data := .seq items n, slots := sl } ∧
      R (.ok (.ret (Value.ref s.heap.objs.size))) { s with heap := s.heap.push { cls := Value.type "tuple", data := Data.seq #[] }, toks := s.toks }) :=
  .of_wp fun prog w A R s h => by
    obtain ⟨hp, g, d, tk, os⟩ := s
    obtain ⟨hl, h⟩ := h
    have f1 := AutoSeq1.idx_int
    wp_walk using wpAny_loadPart' hl
    repeat (first
      | (refine wpAny_ite_false (decide_eq_false (by rw [c0]; exact Bool.false_ne_true)) ?_; wp_walk using wpAny_loadPart' hl)
      | (refine wpAny_ite_false (decide_eq_false (by rw [c1]; exact Bool.false_ne_true)) ?_; wp_walk using wpAny_loadPart' hl)
      | (refine wpAny_ite_true (decide_eq_true c2) ?_; wp_walk using wpAny_loadPart' hl))
    exact ⟨_, rfl, h⟩
def rRepT2 (K : PySem.W.Frag) : R2 := fun x y H Q => ∃ l k xs, x = .ref l ∧ y = .int k ∧ SqT K H l xs ∧ -(2 ^ 63) ≤ k ∧ k < 2 ^ 63 ∧ xs.length * k.toNat ≤ sizeLine ∧
  (xs = [] ∨ k = 1 → Q (.ref l) H) ∧ (xs ≠ [] → k ≠ 1 → ∀ p, H p = none → Q (.ref p) (upd H p (.tup (List.replicate k.toNat xs).flatten)))
section
variable {X : Cx}
theorem op_repT2 : OpR X (binaryOp .Mult) (rRepT2 X.K) := by
  intro pins s σ H x y v u Q I rx ry h
  obtain ⟨l, k, xs, rfl, rfl, hT, h1, h2, hz, q1, q2⟩ := h
  cases rx
  obtain ⟨t, rfl⟩ := ry
  obtain ⟨its, r, ⟨⟨cls, dd, data, sl⟩, ho, hc, n, hd⟩, hs⟩ := I.tuple hT
  simp only at hc hd
  subst hc hd
  have hle : its.length = xs.length := r.length.symm
  have c0 : (decide (k < -(2 ^ 63)) || decide (k ≥ 2 ^ 63)) = false := by
    rw [decide_eq_false (by omega), decide_eq_false (by omega)] <;> rfl
  have hi : its.toArray.isEmpty = decide (xs = []) := by
    cases its with
    | nil =>
      have : xs = [] := List.eq_nil_of_length_eq_zero (by rw [← hle]; rfl)
      rw [decide_eq_true this]
      rfl
    | cons a b =>
      have : xs ≠ [] := fun e => by rw [e] at hle; simp at hle
      rw [decide_eq_false this]
      rfl
  by_cases hc1 : xs = [] ∨ k = 1
  · have c1 : (its.toArray.isEmpty || k == 1) = true := by
      rw [hi]
      rcases hc1 with z | z
      · rw [decide_eq_true z]; rfl
      · rw [z]; simp
    refine wpAny_binaryOp_repeat_ref (T := "tuple") (U := "int") (by decide) ⟨_, ho, rfl⟩ (fun s' => typeIs_int s' k t) noFill_tuple_mul F.fills_int_mul F.slot_int_rmul repeat_tuple F.slot_int_index.lookup
      (call_meets F.slot_int_rmul (typeIs_int s k t) F.entry_int_rmul (F.args_int_rmul_2 _ _) (int_rmul_tuple k t l its.toArray n dd sl)
        ⟨ho, rfl, ⟨_, ho, rfl⟩, call_meets F.slot_tuple_mul ⟨_, ho, rfl⟩ F.entry_tuple_mul (F.args_tuple_mul_2 _ _) (q_tuple_same l its.toArray n dd sl k t c0 c1) ⟨ho, ?_⟩⟩)
    exact ⟨.ref l, H, I, rfl, q1 hc1⟩
  · have hne : xs ≠ [] := fun e => hc1 (.inl e)
    have hk1 : k ≠ 1 := fun e => hc1 (.inr e)
    have c1 : (its.toArray.isEmpty || k == 1) = false := by
      rw [hi, decide_eq_false hne, Bool.false_or]
      exact beq_eq_false_iff_ne.mpr hk1
    by_cases hk : k ≤ 0
    · have c2 : (decide (k ≤ 0) || its.toArray.isEmpty) = true := by rw [decide_eq_true hk]; rfl
      refine wpAny_binaryOp_repeat_ref (T := "tuple") (U := "int") (by decide) ⟨_, ho, rfl⟩ (fun s' => typeIs_int s' k t) noFill_tuple_mul F.fills_int_mul F.slot_int_rmul repeat_tuple F.slot_int_index.lookup
        (call_meets F.slot_int_rmul (typeIs_int s k t) F.entry_int_rmul (F.args_int_rmul_2 _ _) (int_rmul_tuple k t l its.toArray n dd sl)
          ⟨ho, rfl, ⟨_, ho, rfl⟩, call_meets F.slot_tuple_mul ⟨_, ho, rfl⟩ F.entry_tuple_mul (F.args_tuple_mul_2 _ _) (q_tuple_nil l its.toArray n dd sl k t c0 c1 c2) ⟨ho, ?_⟩⟩)
      have e0 : k.toNat = 0 := by omega
      have q := q2 hne hk1
      rw [e0] at q
      refine ⟨.ref s.heap.objs.size, _, I.laid (t' := s.toks) (o := .tup []) (fun b ob q => Heap.get?_push_of_some _ q) (Nat.le_refl _) ?_, rfl, q _ (I.hok.fresh (Nat.le_refl _))⟩
      exact ⟨by rw [List.length_nil]; exact Nat.zero_le _, [], .nil, IsTup.new _ _⟩
    · have c2 : (decide (k ≤ 0) || its.toArray.isEmpty) = false := by
        rw [hi, decide_eq_false hne, decide_eq_false hk]
        rfl
      have hm : ((its.toArray.size : Nat) : Int) * k ≤ 16777216 := by
        rw [List.size_toArray, hle, show k = ((k.toNat : Nat) : Int) by omega]
        rw [sizeLine_eq] at hz
        have h3 : ((xs.length * k.toNat : Nat) : Int) ≤ ((16777216 : Nat) : Int) := Int.ofNat_le.mpr hz
        rw [Int.natCast_mul] at h3
        exact h3
      have flen : (List.replicate k.toNat its).flatten.length ≤ sizeLine := by
        rw [PyProof.Rows.lm_len_rep_flat, hle, Nat.mul_comm]
        exact hz
      have c4 : Builtin.Tuple.tupleTooMany (((its.toArray.size : Nat) : Int) * k) = false := by
        unfold Builtin.Tuple.tupleTooMany
        rw [sizeLine_eq]
        exact decide_eq_false (by omega)
      refine wpAny_binaryOp_repeat_ref (T := "tuple") (U := "int") (by decide) ⟨_, ho, rfl⟩ (fun s' => typeIs_int s' k t) noFill_tuple_mul F.fills_int_mul F.slot_int_rmul repeat_tuple F.slot_int_index.lookup
        (call_meets F.slot_int_rmul (typeIs_int s k t) F.entry_int_rmul (F.args_int_rmul_2 _ _) (int_rmul_tuple k t l its.toArray n dd sl)
          ⟨ho, rfl, ⟨_, ho, rfl⟩, call_meets F.slot_tuple_mul ⟨_, ho, rfl⟩ F.entry_tuple_mul (F.args_tuple_mul_2 _ _) (tuple_mulW l its.toArray n dd sl k t c0 c1 c2 (by omega) c4 (by rw [size_rep, List.size_toArray]; exact flen)) ⟨ho, ?_⟩⟩)
      rw [size_rep]
      refine ⟨.ref s.heap.objs.size, _, I.laid (t' := s.toks) (o := .tup (List.replicate k.toNat xs).flatten) (fun b ob q => Heap.get?_push_of_some _ q) (Nat.le_refl _) ?_, rfl, q2 hne hk1 _ (I.hok.fresh (Nat.le_refl _))⟩
      exact ⟨by rw [PyProof.Rows.lm_len_rep_flat, Nat.mul_comm]; exact hz, _, r.rep k.toNat, IsTup.new _ _⟩
/-- a text many times over -/
def repS (x : Str) (k : Int) : Str := ⟨(List.replicate k.toNat x.cps.toList).flatten.toArray⟩
theorem q_fold (x : Array Nat) : ∀ m : Nat, (List.replicate m x).foldl (· ++ ·) #[] = (List.replicate m x.toList).flatten.toArray := by
  have h : ∀ (m : Nat) (a : Array Nat), (List.replicate m x).foldl (· ++ ·) a = a ++ (List.replicate m x.toList).flatten.toArray := by
    intro m
    induction m with
    | zero => intro a; simp
    | succ m ih =>
      intro a
      rw [List.replicate_succ, List.foldl_cons, ih, List.replicate_succ, List.flatten_cons]
      apply Array.toList_inj.mp
      simp
  intro m
  rw [h]
  simp
def rRepS : R2 := fun x y H Q => ∃ z k, x = .str z ∧ y = .int k ∧ -(2 ^ 63) ≤ k ∧ k < 2 ^ 63 ∧ z.length * k.toNat ≤ sizeLine ∧ Q (.str (repS z k)) H
theorem op_repS : OpR X (binaryOp .Mult) rRepS := by
  intro pins s σ H x y v u Q I rx ry h
  obtain ⟨z, k, rfl, rfl, h1, h2, hz, q⟩ := h
  obtain ⟨t, rfl⟩ := rx
  obtain ⟨t', rfl⟩ := ry
  have hm : ((z.length : Nat) : Int) * ((k.toNat : Nat) : Int) ≤ 16777216 := by
    rw [sizeLine_eq] at hz
    have h3 : ((z.length * k.toNat : Nat) : Int) ≤ ((16777216 : Nat) : Int) := Int.ofNat_le.mpr hz
    rw [Int.natCast_mul] at h3
    exact h3
  refine PySem.P.mul_str (by rw [decide_eq_false (by omega), decide_eq_false (by omega)]; rfl) (fun a b => ?_) (fun a b => ?_) ?_
  · have e : (k.toNat : Int) = k := by omega
    rw [e] at hm
    have hk : 1 ≤ k := by omega
    refine Int.not_lt.mpr ((Int.le_ediv_iff_mul_le (by omega)).mpr ?_)
    omega
  · show decide (z.length * k.toNat > sizeLine) = false
    exact decide_eq_false (by omega)
  · have hT : ∀ (y : Str), y = repS z k → Q (.str y) H := fun y e => by rw [e]; exact q
    by_cases hk : k < 1
    · rw [if_pos hk]
      refine ⟨by decide, .str Str.empty, H, I.tok _, ⟨_, rfl⟩, hT _ ?_⟩
      unfold repS
      rw [show k.toNat = 0 by omega]
      rfl
    · rw [if_neg hk]
      by_cases hb : (k == 1 || z.length == 0) = true
      · rw [if_pos hb]
        refine ⟨.str z, H, I, ⟨_, rfl⟩, hT _ ?_⟩
        unfold repS
        rcases Bool.or_eq_true_iff.mp hb with e | e
        · have e : k = 1 := by simpa using e
          subst e
          show z = ⟨([z.cps.toList].flatten).toArray⟩
          simp
        · have e : z.cps.size = 0 := by simpa [Str.length] using e
          have e2 : z.cps = #[] := Array.eq_empty_of_size_eq_zero e
          have e3 : z = ⟨#[]⟩ := by cases z; simp at e2; rw [e2]
          rw [e3]
          congr 1
          apply Array.toList_inj.mp
          simp
      · rw [if_neg hb]
        refine ⟨?_, .str _, H, I.tok _, ⟨_, rfl⟩, hT _ ?_⟩
        · rw [q_fold]
          show (List.replicate k.toNat z.cps.toList).flatten.toArray.size ≤ sizeLine
          rw [List.size_toArray, PyProof.Rows.lm_len_rep_flat, Nat.mul_comm]
          simpa [Str.length] using hz
        · unfold repS
          rw [q_fold]
end
end L2

namespace QL
open PySem L2
/-! ### over plain data -/
def oMulT (x y : P) (l : LS) (Q : P → LS → Prop) : Prop := match x, y with
  | .d (.tup a), .d (.int k) => -(2 ^ 63) ≤ k ∧ k < 2 ^ 63 ∧ a.length * k.toNat ≤ sizeLine ∧ Q (.d (.tup (List.replicate k.toNat a).flatten)) l
  | _, _ => False
theorem RDs.rep {K : PySem.W.Frag} {p : Pt} {xs : List D} {vs : List V} (h : RDs K p xs vs) : ∀ k : Nat, RDs K p (List.replicate k xs).flatten (List.replicate k vs).flatten
  | 0 => .nil
  | k + 1 => by
    rw [List.replicate_succ, List.replicate_succ, List.flatten_cons, List.flatten_cons]
    exact h.append (RDs.rep h k)
theorem ref_mulT {K : PySem.W.Frag} : RefOp K (rRepT2 K) oMulT := fun p l x y vx vy Qd Q w ce rx ry h k => by
  unfold oMulT at h
  split at h
  · rename_i a n
    cases ry
    cases rx with
    | tup h1 r1 =>
      obtain ⟨b1, b2, b3, q⟩ := h
      refine ⟨_, _, _, rfl, rfl, h1.sq, b1, b2, by rw [← r1.len]; exact b3, fun e => ?_, fun _ _ => k.newT w ce (r1.rep _) q⟩
      have e2 : (List.replicate n.toNat a).flatten = a := by
        rcases e with e | e
        · have : a = [] := List.eq_nil_of_length_eq_zero (by rw [r1.len, e]; rfl)
          rw [this]
          simp
        · rw [e]
          show [a].flatten = a
          simp
      rw [e2] at q
      exact k.same w ce (d := .d _) (RD.tup h1 r1) q
  · exact h.elim
def oMulS (x y : P) (l : LS) (Q : P → LS → Prop) : Prop := match x, y with
  | .d (.str a), .d (.int k) => -(2 ^ 63) ≤ k ∧ k < 2 ^ 63 ∧ a.length * k.toNat ≤ sizeLine ∧ Q (.d (.str (repS a k))) l
  | _, _ => False
theorem ref_mulS {K : PySem.W.Frag} : RefOp K rRepS oMulS := fun p l x y vx vy Qd Q w ce rx ry h k => by
  unfold oMulS at h
  split at h
  · cases rx; cases ry
    exact ⟨_, _, rfl, rfl, h.1, h.2.1, h.2.2.1, k.same w ce (d := .d _) (RD.str _) h.2.2.2⟩
  · exact h.elim
/-- one sign within a text -/
def oInC (neg : Bool) (x y : P) (l : LS) (Q : P → LS → Prop) : Prop := match x, y with
  | .d (.str a), .d (.str z) => ∃ c, a = ⟨#[c]⟩ ∧ Q (.d (.bl (decide (c ∈ z.cps.toList) ^^ neg))) l
  | _, _ => False
theorem ref_inC {K : PySem.W.Frag} : RefOp K (fun x y H Q => ∃ i j, x = .str i ∧ y = .str j ∧ Q (.bl (!(Builtin.Str.occurrences j i 0 j.length 1).isEmpty)) H) (oInC false) := fun p l x y vx vy Qd Q w ce rx ry h k => by
  unfold oInC at h
  split at h
  · cases rx; cases ry
    obtain ⟨c, rfl, h⟩ := h
    rw [Bool.xor_false] at h
    refine ⟨_, _, rfl, rfl, ?_⟩
    rw [PySem.StrLaws.found_one]
    exact k.same w ce (d := .d _) (RD.bl _) h
  · exact h.elim
end QL
set_option Elab.async false
set_option linter.all false
set_option maxRecDepth 100000
set_option maxHeartbeats 4000000
/-! QS2: s += t, calls without arguments. -/
namespace L2
open PySem PySem.Spec PyProof.Rows
theorem ip_addS {X : Cx} : PIp X .Add (fun x y H Q => ∃ i j, x = .str i ∧ y = .str j ∧ i.length + j.length ≤ sizeLine ∧ Q (.str (i ++ j)) H) := by
  exact iop_add_str
end L2
namespace QL
open PySem L2
section
variable {X : Cx} {W : WX} {pos q : Pos} {x : Str} {fs : FS} {k j n : Nat}
def kCall0 (fs : FS) (l : LS) (Q : P → LS → Prop) (E : EK) : Prop := callP fs [] l Q E
def wCall0 (fs : FS) (σ : SS) (l : LS) (Q : P → LS → Prop) (E : EK) : Prop := kCall0 fs l Q E
theorem qe_call0 (c : CalQ X.prog X.w X.K X.mg X.base k x 0 fs) (hr : Room j X.A) (hk : k ≤ j) (tk : Takes X W) (hg : Gl X x) (hdb : (x == ("__debug__" : Str)) = false := by decide) :
    QE X W (.Call (.Name x q) [] [] pos) (wCall0 fs) := by
  obtain ⟨f, fd, ps, F, hm, hkp, hb⟩ := c
  refine ⟨fun pins s σ H Q I h => ?_⟩
  refine wpAny_Call_Name_kw (ld_glob I hg hm ?_ hdb)
  refine PySem.W.callWith_K0 I.kIn hkp (run_fnS (E := fun σ => L2.WE W σ) (us := []) (vs := []) F (hr.mono hk) hb (passAt tk σ) I .nil ?_)
  obtain ⟨p, σd, l, Qd, Ed, hH, R, hw, kk, lk⟩ := h
  subst hH
  exact call_ok R.wf R.ce .nil rfl hw (fun d l' v p' e' w' c' r' q' => kk d l' v p' e' (R.ext e' w' c') r' q') fun ex l' cls dd p' e' w' c' x q => lk ex l' cls dd p' e' (R.ext e' w' c') x q
end
end QL
set_option Elab.async false
set_option linter.all false
set_option maxRecDepth 100000
set_option maxHeartbeats 4000000
/-! QX6: the facts of an own exception class, by a look at the written part. -/
namespace QL
open PySem L2
theorem clsA_of {K : PySem.W.Frag} {x : Str} {C : Addr} (h : PySem.W.nsIn K mainGlobals x = some (some (.ref C))) : clsA K x = C := by
  unfold clsA
  rw [h]
def excOkB (K : PySem.W.Frag) (C : Addr) : Bool := match K.lookup C with
  | some ⟨.type "type", _, .cls cd, sl⟩ => (match cd.mro, sl.toList with
    | .ref C' :: bm, [_, _, _, _, some (.builtin n), _] => decide (C' = C) && (decide (n = "ValueError.__new__") && (!cd.hasDel && (cd.hasDict && PySem.HandSPX.refsVE bm)))
    | _, _ => false)
  | _ => false
theorem excOkB_ok {K : PySem.W.Frag} {C : Addr} (h : excOkB K C = true) : ∃ nm q N bs bm sn sub ab col dd k0 k1 k2 k3 k5, K.lookup C = some (excClassObj nm q C N bs bm true sn sub ab col dd k0 k1 k2 k3 k5 "ValueError.__new__") ∧ PySem.HandSPX.refsVE bm = true := by
  unfold excOkB at h
  split at h
  · rename_i dd cd sl ho
    split at h
    · rename_i C' bm k0 k1 k2 k3 n k5 hm hs
      simp only [Bool.and_eq_true, decide_eq_true_eq, Bool.not_eq_true'] at h
      obtain ⟨rfl, rfl, h3, h4, h5⟩ := h
      obtain ⟨nm, bs, mro, ns, qn, hd, sn, sb, ab, col, del⟩ := cd
      dsimp only at hm h3 h4
      subst hm h3 h4
      have es : sl = #[k0, k1, k2, k3, some (.builtin "ValueError.__new__"), k5] := Array.toList_inj.mp hs
      subst es
      exact ⟨_, _, _, _, bm, _, _, _, _, _, _, _, _, _, _, ho, h5⟩
    · cases h
  · cases h
def clsB (K : PySem.W.Frag) (C : Addr) : Bool := excOkB K C && (decide (PySem.W.findIn K (.ref C) "__setattr__" = some (some (.builtin "object.__setattr__"))) && (decide (PySem.W.subIn K (.ref C) (.type "BaseException") = some true) && (decide (PySem.W.typeIn K (.ref C) = some (.type "type")) &&
  (PySem.W.keepIn K (.ref C) && (decide (PySem.W.findIn K (.ref C) "__getattribute__" = some (some (.builtin "BaseException.__getattribute__"))) && (decide (PySem.W.findIn K (.ref C) "__getattr__" = some none) && (PySem.W.hasDictIn K C &&
  (decide (PySem.W.findIn K (.ref C) "__class__" = some (some (.builtin "object.__class__"))) && (decide (PySem.W.specialIn K (.builtin "object.__class__") "__get__" = some (some (.builtin "getset_descriptor.__get__"))) && (decide (PySem.W.takesIn K (.builtin "object.__class__") = some true) &&
  decide (PySem.W.mroIn K C (.type "object") = some true)))))))))))
structure ClsF (K : PySem.W.Frag) (C : Addr) : Prop where
  oex : OexC K C
  xf : XfC K C
  exc : ExcC K C
theorem clsB_ok {K : PySem.W.Frag} {C : Addr} (h : clsB K C = true) : ClsF K C := by
  unfold clsB at h
  simp only [Bool.and_eq_true, decide_eq_true_eq] at h
  obtain ⟨h1, h2, h3, h4, h5, h6, h7, h8, h9, h10, h11, h12⟩ := h
  exact ⟨⟨excOkB_ok h1, h2, h3, h4, h5⟩, ⟨h6, h7, h3, h8⟩, ⟨h6, h7, h3, h8, h9, h10, h11, h12⟩⟩
theorem tabAll {K : PySem.W.Frag} {c : Value} {t : List (Str × Bool)} (h : ∀ p ∈ t, PySem.W.exmOne K (.ref (clsA K p.1)) c = some p.2) (y : Str) (b : Bool) (e : t.lookup y = some b) : PySem.W.exmOne K (.ref (clsA K y)) c = some b := h (y, b) (PySem.mem_of_lookup e)
/-- a class and the statement of its __init__ -/
def methS (st : Stmt) (i : Nat) : Stmt := match st with
  | .ClassDef _ _ _ body _ _ _ _ _ _ _ => body.getD i (.Pass ⟨0, 0, 0, 0⟩)
  | _ => .Pass ⟨0, 0, 0, 0⟩
end QL
set_option Elab.async false
set_option linter.all false
set_option maxRecDepth 100000
set_option maxHeartbeats 4000000
/-! QS3: x in a list of data of any depth, l.index(x), comprehensions with a test. -/
namespace QL
open PySem L2
theorem any_py {a : D} : ∀ ys : List D, ((D.pys ys).any fun z => PyData.eqv z a.py) = ys.any fun z => D.eqv z a
  | [] => rfl
  | y :: ys => by
    rw [show D.pys (y :: ys) = y.py :: D.pys ys from by simp [D.pys], List.any_cons, List.any_cons, any_py ys]
    rfl
def oInD (neg : Bool) (x y : P) (l : LS) (Q : P → LS → Prop) : Prop := match snap l x, snap l y with
  | some a, some (.lst ys) => dOk 60 a ∧ dOk 60 (.lst ys) ∧ Q (.d (.bl (if neg then !(ys.any fun z => D.eqv z a) else ys.any fun z => D.eqv z a))) l
  | _, _ => False
theorem ref_inD {K : PySem.W.Frag} : RefOp K (rInD K) (oInD false) := fun p l x y vx vy Qd Q w ce rx ry h k => by
  unfold oInD at h
  split at h
  · rename_i a ys ha hb
    have q := k.same w ce (d := .d _) (RD.bl _) h.2.2
    rw [if_neg (by decide), ← any_py] at q
    have e : (D.lst ys).py = .list (D.pys ys) := by simp [D.py]
    have h1 := snap_ok ce ry hb h.2.1
    have h2 := dOk_shaped h.2.1
    rw [e] at h1 h2
    exact ⟨_, _, snap_ok ce rx ha h.1, h1, dOk_shaped h.1, h2, q⟩
  · exact h.elim
theorem ref_notInD {K : PySem.W.Frag} : RefOp K (rNotInD K) (oInD true) := fun p l x y vx vy Qd Q w ce rx ry h k => by
  unfold oInD at h
  split at h
  · rename_i a ys ha hb
    have q := k.same w ce (d := .d _) (RD.bl _) h.2.2
    rw [if_pos rfl, ← any_py] at q
    have e : (D.lst ys).py = .list (D.pys ys) := by simp [D.py]
    have h1 := snap_ok ce ry hb h.2.1
    have h2 := dOk_shaped h.2.1
    rw [e] at h1 h2
    exact ⟨_, _, snap_ok ce rx ha h.1, h1, dOk_shaped h.1, h2, q⟩
  · exact h.elim
def mIndex (x : P) (xs : List P) (l : LS) (Q : P → LS → Prop) : Prop := match snap l x, xs with
  | some (.lst ys), [.d a] => dOk 60 a ∧ dOk 60 (.lst ys) ∧ ∃ (j : Nat) (z : D), ys[j]? = some z ∧ D.eqv z a = true ∧ (∀ (m : Nat) (z' : D), m < j → ys[m]? = some z' → D.eqv z' a = false) ∧ Q (.d (.int (j : Int))) l
  | _, _ => False
theorem pys_get : ∀ (ys : List D) (j : Nat), (D.pys ys)[j]? = (ys[j]?).map D.py
  | [], j => by simp [D.pys]
  | y :: ys, 0 => by simp [D.pys]
  | y :: ys, j + 1 => by
    rw [show D.pys (y :: ys) = y.py :: D.pys ys from by simp [D.pys], List.getElem?_cons_succ, List.getElem?_cons_succ, pys_get ys j]
theorem ref_index {K : PySem.W.Frag} : RefMt K (rIndexD K) mIndex := fun p l x vx xs vs Qd Q w ce rx rxs h k => by
  unfold mIndex at h
  split at h
  · rename_i ys a hx
    obtain ⟨v, rfl, r⟩ := rxs.one
    obtain ⟨h1, h2, j, z, hz, hzz, hno, q⟩ := h
    have d1 := snap_ok ce rx hx h2
    have s2 := dOk_shaped h2
    have e : (D.lst ys).py = .list (D.pys ys) := by simp [D.py]
    rw [e] at d1 s2
    have hv : ∃ b, vx = .ref b := by cases d1 with | lst _ _ => exact ⟨_, rfl⟩
    obtain ⟨b, rfl⟩ := hv
    refine ⟨b, v, a.py, D.pys ys, j, z.py, rfl, rfl, d1, snap_ok ce (x := .d a) r rfl h1, s2, dOk_shaped h1, by rw [pys_get, hz]; rfl, hzz, fun m z' hm hz' => ?_, k.same w ce (d := .d _) (RD.int _) q⟩
    rw [pys_get] at hz'
    obtain ⟨y', hy', rfl⟩ := Option.map_eq_some_iff.mp hz'
    exact hno m y' hm hy'
  · exact h.elim
/-- [elt for x in xs if test] -/
theorem lcF {xs : List D} {g : WG} {σ : SS} {l : LS} {tt : WT} {te : WE} {vs : List Nat} {f : Fresh} {Q : P → LS → Prop} (Iv : Nat → List D → LS → Prop) (hz : xs.length < sizeLine) (h0 : Iv 0 [] l) (hl : ∀ i acc l, Iv i acc l → acc.length ≤ i ∧ i ≤ xs.length)
    (ht : ∀ i x acc l, xs[i]? = some x → Iv i acc l → g (.d x) (wipeD σ vs) l (kLcT tt te vs σ (Iv (i + 1)) acc)) (hd : ∀ acc l, Iv xs.length acc l → freshL f acc l Q) : lcP ⟨xs, okAll⟩ g tt te vs f σ l Q :=
  ⟨Iv, h0, fun i acc l h => ⟨True.intro, by have := hl _ _ _ h; show acc.length < sizeLine; omega⟩, fun i x acc l e h => ht i x acc l e h, fun acc l h => hd acc l h⟩
end QL
open PySem L2 in
theorem L2.Room.u65 {k : Nat} {A : Around} (r : Room k A) : A.units + 65 < cLine := by have := r.un; omega
set_option Elab.async false
set_option linter.all false
set_option maxRecDepth 100000
set_option maxHeartbeats 4000000
/-! QD1: dicts over plain data. -/
namespace QL
open PySem L2
section
variable {κ : Type} [DecidableEq κ]
def valD (kvs : List (κ × D)) (k : κ) : Option D := (kvs.find? fun kv => decide (kv.1 = k)).map (·.2)
def putD (kvs : List (κ × D)) (k : κ) (v : D) : List (κ × D) :=
  if (kvs.any fun kv => decide (kv.1 = k)) = true then kvs.map (fun kv => if kv.1 = k then (kv.1, v) else kv) else kvs ++ [(k, v)]
theorem valD_nil {k : κ} : valD ([] : List (κ × D)) k = none := rfl
theorem valD_pos {q : κ × D} {r : List (κ × D)} {k : κ} (e : q.1 = k) : valD (q :: r) k = some q.2 := by simp [valD, List.find?_cons, e]
theorem valD_neg {q : κ × D} {r : List (κ × D)} {k : κ} (e : ¬ q.1 = k) : valD (q :: r) k = valD r k := by simp [valD, List.find?_cons, e]
/-- the same pairs, by values -/
def zipV (kvs : List (κ × D)) (vs : List V) : List (κ × V) := (kvs.map (·.1)).zip vs
variable {K : PySem.W.Frag} {p : Pt}
theorem valD_ok (k : κ) : ∀ {kvs : List (κ × D)} {vs : List V}, RDs K p (kvs.map (·.2)) vs → (∃ d v, valD kvs k = some d ∧ valV (zipV kvs vs) k = some v ∧ RD K p d v) ∨ (valD kvs k = none ∧ valV (zipV kvs vs) k = none)
  | [], _, _ => .inr ⟨rfl, rfl⟩
  | q :: kvs, _, .cons (v := v) (vs := vs) h t => by
    show (∃ d w, _ ∧ valV ((q.1, v) :: zipV kvs vs) k = some w ∧ _) ∨ (_ ∧ valV ((q.1, v) :: zipV kvs vs) k = none)
    by_cases e : q.1 = k
    · exact .inl ⟨q.2, v, valD_pos e, valV_pos e, h⟩
    · rw [valD_neg e, valV_neg e]
      exact valD_ok k t
theorem any_zip (k : κ) : ∀ {kvs : List (κ × D)} {vs : List V}, kvs.length = vs.length → ((zipV kvs vs).any fun kv => decide (kv.1 = k)) = kvs.any fun kv => decide (kv.1 = k)
  | [], _, _ => rfl
  | q :: kvs, [], h => by simp at h
  | q :: kvs, v :: vs, h => by
    show (decide (q.1 = k) || (zipV kvs vs).any _) = (decide (q.1 = k) || kvs.any _)
    rw [any_zip k (by simpa using h)]
theorem mapD_ok {d : D} {v : V} (k : κ) (r : RD K p d v) : ∀ {kvs : List (κ × D)} {vs : List V}, RDs K p (kvs.map (·.2)) vs →
    ∃ us, (zipV kvs vs).map (fun kv => if kv.1 = k then (kv.1, v) else kv) = zipV (kvs.map fun kv => if kv.1 = k then (kv.1, d) else kv) us ∧ RDs K p ((kvs.map fun kv => if kv.1 = k then (kv.1, d) else kv).map (·.2)) us
  | [], _, .nil => ⟨[], rfl, .nil⟩
  | q :: kvs, _, .cons (v := w) (vs := ws) h t => by
    obtain ⟨us, h1, h2⟩ := mapD_ok k r t
    by_cases e : q.1 = k
    · refine ⟨v :: us, ?_, ?_⟩
      · show (if q.1 = k then (q.1, v) else (q.1, w)) :: (zipV kvs ws).map _ = _
        rw [h1, if_pos e, List.map_cons, if_pos e]
        rfl
      · rw [List.map_cons, if_pos e]
        exact .cons r h2
    · refine ⟨w :: us, ?_, ?_⟩
      · show (if q.1 = k then (q.1, v) else (q.1, w)) :: (zipV kvs ws).map _ = _
        rw [h1, if_neg e, List.map_cons, if_neg e]
        rfl
      · rw [List.map_cons, if_neg e]
        exact .cons h h2
theorem putD_ok {d : D} {v : V} (k : κ) (r : RD K p d v) {kvs : List (κ × D)} {vs : List V} (h : RDs K p (kvs.map (·.2)) vs) : ∃ us, putK (zipV kvs vs) k v = zipV (putD kvs k d) us ∧ RDs K p ((putD kvs k d).map (·.2)) us := by
  have hl : kvs.length = vs.length := by rw [← h.len]; simp
  unfold putK putD
  rw [any_zip k hl]
  split
  · exact mapD_ok k r h
  · refine ⟨vs ++ [v], ?_, ?_⟩
    · unfold zipV
      rw [List.map_append, List.zip_append (by simpa using hl)]
      rfl
    · rw [List.map_append]
      exact h.append (.cons r .nil)
end
/-! ### keys -/
def keyD : D → Option Key
  | .int i => some (.inl i)
  | .str x => some (.inr x)
  | _ => none
def keyL : List D → Option (List Key)
  | [] => some []
  | x :: xs => match keyD x, keyL xs with
    | some k, some ks => some (k :: ks)
    | _, _ => none
def keyT : D → Option (List Key)
  | .tup xs => keyL xs
  | _ => none
section
variable {K : PySem.W.Frag} {p : Pt} {l : LS}
theorem keyD_ok {x : D} {v : V} {k : Key} (r : RD K p x v) (h : keyD x = some k) : v = kV k := by
  cases r <;> cases h <;> rfl
theorem keyL_ok : ∀ {xs : List D} {vs : List V} {ks : List Key}, RDs K p xs vs → keyL xs = some ks → vs = ks.map kV
  | [], _, _, .nil, h => by cases h; rfl
  | x :: xs, _, ks, .cons r t, h => by
    unfold keyL at h
    split at h
    · rename_i k1 ks1 h1 h2
      cases h
      rw [keyD_ok r h1, keyL_ok t h2]
      rfl
    · cases h
theorem keyT_ok {x : D} {v : V} {k : List Key} (r : RD K p x v) (h : keyT x = some k) : ∃ b, v = .ref b ∧ p.H b = some (.tup (k.map kV)) := by
  cases r with
  | tup h1 h2 =>
    have e := keyL_ok h2 h
    subst e
    exact ⟨_, rfl, h1.2⟩
  | _ => cases h
/-! ### what a dict holds -/
def dkOf (l : LS) : P → Option (List (Key × D))
  | .d (.dk ks vs) => some (ks.zip vs)
  | .loc n => match l[n]? with
    | some (.dk kvs) => some kvs
    | some (.fz (.dk ks vs)) => some (ks.zip vs)
    | _ => none
  | _ => none
def dtOf (l : LS) : P → Option (List (List Key × D))
  | .d (.dt ks vs) => some (ks.zip vs)
  | .loc n => match l[n]? with
    | some (.dt kvs) => some kvs
    | some (.fz (.dt ks vs)) => some (ks.zip vs)
    | _ => none
  | _ => none
theorem zip_fst {κ : Type} {ks : List κ} {xs : List D} (h : ks.length = xs.length) : (ks.zip xs).map (·.1) = ks := List.map_fst_zip (by omega)
theorem zip_snd {κ : Type} {ks : List κ} {xs : List D} (h : ks.length = xs.length) : (ks.zip xs).map (·.2) = xs := List.map_snd_zip (by omega)
theorem dk_rdD {ks : List Key} {xs : List D} {v : V} (r : RD K p (.dk ks xs) v) : ∃ a vs, v = .ref a ∧ p.H a = some (.dK (zipV (ks.zip xs) vs)) ∧ RDs K p ((ks.zip xs).map (·.2)) vs := by
  cases r with
  | dk f h hl h2 => exact ⟨_, _, rfl, by unfold zipV; rw [zip_fst hl]; exact h, by rw [zip_snd hl]; exact h2⟩
theorem dt_rdD {ks : List (List Key)} {xs : List D} {v : V} (r : RD K p (.dt ks xs) v) : ∃ a vs, v = .ref a ∧ p.H a = some (.dT (zipV (ks.zip xs) vs)) ∧ RDs K p ((ks.zip xs).map (·.2)) vs := by
  cases r with
  | dt f h hl h2 => exact ⟨_, _, rfl, by unfold zipV; rw [zip_fst hl]; exact h, by rw [zip_snd hl]; exact h2⟩
theorem dkOf_ok {x : P} {v : V} {kvs : List (Key × D)} (ce : Cells K p l) (r : RP K p x v) (h : dkOf l x = some kvs) : ∃ a vs, v = .ref a ∧ p.H a = some (.dK (zipV kvs vs)) ∧ RDs K p (kvs.map (·.2)) vs := by
  unfold dkOf at h
  split at h
  · cases h
    exact dk_rdD r
  · obtain ⟨a, h1, rfl⟩ := r
    split at h
    · rename_i q
      cases h
      obtain ⟨b, h2, nf, vs, h3, h4⟩ := ce.2 _ _ q
      rw [h1] at h2
      cases h2
      exact ⟨a, vs, rfl, h3, h4⟩
    · rename_i q
      cases h
      obtain ⟨b, h2, h3⟩ := ce.2 _ _ q
      rw [h1] at h2
      cases h2
      exact dk_rdD h3
    · cases h
  · cases h
theorem dtOf_ok {x : P} {v : V} {kvs : List (List Key × D)} (ce : Cells K p l) (r : RP K p x v) (h : dtOf l x = some kvs) : ∃ a vs, v = .ref a ∧ p.H a = some (.dT (zipV kvs vs)) ∧ RDs K p (kvs.map (·.2)) vs := by
  unfold dtOf at h
  split at h
  · cases h
    exact dt_rdD r
  · obtain ⟨a, h1, rfl⟩ := r
    split at h
    · rename_i q
      cases h
      obtain ⟨b, h2, nf, vs, h3, h4⟩ := ce.2 _ _ q
      rw [h1] at h2
      cases h2
      exact ⟨a, vs, rfl, h3, h4⟩
    · rename_i q
      cases h
      obtain ⟨b, h2, h3⟩ := ce.2 _ _ q
      rw [h1] at h2
      cases h2
      exact dt_rdD h3
    · cases h
  · cases h
/-- what stands at the key y, if x is a dict and y a key of its kind -/
def dLook (l : LS) (x y : P) : Option (Option D) := match y with
  | .d y => match dkOf l x with
    | some kvs => (keyD y).map (valD kvs)
    | none => match dtOf l x with
      | some kvs => (keyT y).map (valD kvs)
      | none => none
  | _ => none
theorem dLook_ok {x y : P} {vx vy : V} {o : Option D} (ce : Cells K p l) (rx : RP K p x vx) (ry : RP K p y vy) (h : dLook l x y = some o) :
    ∃ a ov, vx = .ref a ∧ DGet p.H a vy ov ∧ ((∃ d v, o = some d ∧ ov = some v ∧ RD K p d v) ∨ (o = none ∧ ov = none)) := by
  unfold dLook at h
  split at h
  · split at h
    · rename_i kvs hx
      obtain ⟨k, hk, rfl⟩ := Option.map_eq_some_iff.mp h
      obtain ⟨a, vs, rfl, h1, h2⟩ := dkOf_ok ce rx hx
      have e := keyD_ok ry hk
      subst e
      refine ⟨a, _, rfl, DGet.k h1, ?_⟩
      rcases valD_ok k h2 with ⟨d, v, g1, g2, g3⟩ | ⟨g1, g2⟩
      · exact .inl ⟨d, v, g1, g2, g3⟩
      · exact .inr ⟨g1, g2⟩
    · split at h
      · rename_i kvs hx
        obtain ⟨k, hk, rfl⟩ := Option.map_eq_some_iff.mp h
        obtain ⟨a, vs, rfl, h1, h2⟩ := dtOf_ok ce rx hx
        obtain ⟨b, rfl, hb⟩ := keyT_ok ry hk
        refine ⟨a, _, rfl, DGet.t h1 hb, ?_⟩
        rcases valD_ok k h2 with ⟨d, v, g1, g2, g3⟩ | ⟨g1, g2⟩
        · exact .inl ⟨d, v, g1, g2, g3⟩
        · exact .inr ⟨g1, g2⟩
      · cases h
  · cases h
/-! ### d[k], k in d -/
def rDGet : R2 := fun x y H Q => ∃ a v, x = .ref a ∧ DGet H a y (some v) ∧ Q v H
def oDGet (x y : P) (l : LS) (Q : P → LS → Prop) : Prop := ∃ d, dLook l x y = some (some d) ∧ Q (.d d) l
theorem ref_dget : RefOp K rDGet oDGet := fun p l x y vx vy Qd Q w ce rx ry ⟨d, h, q⟩ k => by
  obtain ⟨a, ov, rfl, g, ⟨d', v, e1, rfl, r⟩ | ⟨e, _⟩⟩ := dLook_ok ce rx ry h
  · cases e1
    exact ⟨a, v, rfl, g, k.same w ce (d := .d d) r q⟩
  · cases e
def rDIn (neg : Bool) : R2 := fun y x H Q => ∃ a o, x = .ref a ∧ DGet H a y o ∧ Q (.bl (if neg then !o.isSome else o.isSome)) H
def oDIn (neg : Bool) (y x : P) (l : LS) (Q : P → LS → Prop) : Prop := ∃ o, dLook l x y = some o ∧ Q (.d (.bl (if neg then !o.isSome else o.isSome))) l
theorem ref_din {neg : Bool} : RefOp K (rDIn neg) (oDIn neg) := fun p l y x vy vx Qd Q w ce ry rx ⟨o, h, q⟩ k => by
  obtain ⟨a, ov, rfl, g, hh⟩ := dLook_ok ce rx ry h
  have e : o.isSome = ov.isSome := by rcases hh with ⟨d, v, rfl, rfl, _⟩ | ⟨rfl, rfl⟩ <;> rfl
  rw [e] at q
  exact ⟨a, ov, rfl, g, k.same w ce (d := .d _) (RD.bl _) q⟩
end
theorem op_din {X : Cx} (hu : X.A.units + 1 < cLine) : OpR X (compareOp .In) (rDIn false) := fun pins s σ H x y v u Q I rx ry ⟨a, o, ey, g, q⟩ => by
  subst ey
  obtain rfl : u = Value.ref a := ry
  exact d_in hu I g rx fun s3 I3 => ⟨.bl o.isSome, H, I3, rfl, q⟩
theorem op_dnotin {X : Cx} (hu : X.A.units + 1 < cLine) : OpR X (compareOp .NotIn) (rDIn true) := fun pins s σ H x y v u Q I rx ry ⟨a, o, ey, g, q⟩ => by
  subst ey
  obtain rfl : u = Value.ref a := ry
  exact d_notIn hu I g rx fun s3 I3 => ⟨.bl (!o.isSome), H, I3, rfl, q⟩
section
variable {X : Cx} {W : WX} {a b e o i f : Expr} {wa wb we wo wi wf : WE} {pos : Pos}
theorem qe_dget (hu : X.A.units + 1 < cLine) (ha : QE X W a wa) (hb : QE X W b wb) (hs : PlainIx b) : QE X W (.Subscript a b pos) (wOp oDGet wa wb) := PE.imp (pe_dget hu ha hb hs) fun _ _ _ h => op_ok (r := rDGet) ref_dget h
/-! ### {} -/
def wNewK (_ : SS) (l : LS) (Q : P → LS → Prop) (_ : EK) : Prop := Q (.loc l.length) (l ++ [.dk []])
def wNewT (_ : SS) (l : LS) (Q : P → LS → Prop) (_ : EK) : Prop := Q (.loc l.length) (l ++ [.dt []])
theorem qe_newK : QE X W (.Dict [] [] pos) wNewK := PE.imp pe_dnewK fun σ H Q ⟨p, σd, l, Qd, Ed, hH, R, hw, k, lk⟩ => by
  subst hH
  refine fun a ha => k (.loc l.length) (l ++ [.dk []]) (.ref a) (p.new a (.dK [])) (ext_new ha) (R.ext (ext_new ha) (wf_new R.wf ha) (Cells.new (c := .dk []) R.wf R.ce ha (show CellOk X.K (p.new a (.dK [])) (.dk []) a from ⟨fun z => R.wf.nF ha z, [], upd_same, .nil⟩))) ⟨a, ?_, rfl⟩ (show Qd (.loc l.length) (l ++ [.dk []]) from hw)
  show (p.rho ++ [a])[l.length]? = some a
  rw [R.ce.1, List.getElem?_append_right (Nat.le_refl _)]
  simp
theorem qe_newT : QE X W (.Dict [] [] pos) wNewT := PE.imp pe_dnewT fun σ H Q ⟨p, σd, l, Qd, Ed, hH, R, hw, k, lk⟩ => by
  subst hH
  refine fun a ha => k (.loc l.length) (l ++ [.dt []]) (.ref a) (p.new a (.dT [])) (ext_new ha) (R.ext (ext_new ha) (wf_new R.wf ha) (Cells.new (c := .dt []) R.wf R.ce ha (show CellOk X.K (p.new a (.dT [])) (.dt []) a from ⟨fun z => R.wf.nF ha z, [], upd_same, .nil⟩))) ⟨a, ?_, rfl⟩ (show Qd (.loc l.length) (l ++ [.dt []]) from hw)
  show (p.rho ++ [a])[l.length]? = some a
  rw [R.ce.1, List.getElem?_append_right (Nat.le_refl _)]
  simp
/-! ### d[k] = v -/
def rSetD : TSet := fun o i v H Q => ∃ a H', o = .ref a ∧ DPut H a i v H' ∧ Q H'
theorem set_dict (hu : X.A.units + 1 < cLine) : PSet X rSetD := fun pins s σ H o i v ov iv u Q I ro ri rv ⟨a, H', eo, g, q⟩ => by
  subst eo
  obtain rfl : ov = Value.ref a := ro
  exact d_setItem hu I g ri rv fun s' I' => ⟨H', I', q⟩
/-- the cells behind d[k] = v -/
def dPut (l : LS) (n : Nat) (y v : D) : Option LS := match l[n]? with
  | some (.dk kvs) => (keyD y).map fun k => l.set n (.dk (putD kvs k v))
  | some (.dt kvs) => (keyT y).map fun k => l.set n (.dt (putD kvs k v))
  | _ => none
def dLen (l : LS) (n : Nat) : Nat := match l[n]? with
  | some (.dk kvs) => kvs.length
  | some (.dt kvs) => kvs.length
  | _ => 0
theorem zipV_len {κ : Type} {K : PySem.W.Frag} {p : Pt} {kvs : List (κ × D)} {vs : List V} (h : RDs K p (kvs.map (·.2)) vs) : (zipV kvs vs).length = kvs.length := by
  have := h.len
  simp at this
  simp [zipV, ← this]
theorem dPut_ok {K : PySem.W.Frag} {p : Pt} {l l' : LS} {n : Nat} {y v : D} {vx vy vv : V} (w : WF p) (ce : Cells K p l) (rx : RP K p (.loc n) vx) (ry : RD K p y vy) (rv : RD K p v vv) (h : dPut l n y v = some l') (hz : dLen l n < sizeLine) :
    ∃ a H', vx = .ref a ∧ DPut p.H a vy vv H' ∧ ∃ p', p'.H = H' ∧ Ext p p' ∧ WF p' ∧ Cells K p' l' := by
  obtain ⟨a, h1, rfl⟩ := rx
  have hr := List.mem_of_getElem? h1
  unfold dPut at h
  unfold dLen at hz
  split at h
  · rename_i kvs q
    rw [q] at hz
    obtain ⟨k, hk, rfl⟩ := Option.map_eq_some_iff.mp h
    obtain ⟨b, h2, nf, vs, h3, h4⟩ := ce.2 n _ q
    rw [h1] at h2
    cases h2
    have e := keyD_ok ry hk
    subst e
    obtain ⟨us, g1, g2⟩ := putD_ok k rv h4
    refine ⟨a, _, rfl, DPut.k h3 (by rw [show ((kvs.map (·.1)).zip vs).length = _ from zipV_len h4]; exact hz), p.put a (.dK (putK (zipV kvs vs) k vv)), rfl, ext_put hr nf, wf_put w, Cells.put w ce h1 nf ?_⟩
    exact ⟨nf, us, by show upd _ _ _ _ = _; rw [upd_same, g1]; rfl, g2.mono (ext_put hr nf).hf⟩
  · rename_i kvs q
    rw [q] at hz
    obtain ⟨k, hk, rfl⟩ := Option.map_eq_some_iff.mp h
    obtain ⟨b, h2, nf, vs, h3, h4⟩ := ce.2 n _ q
    rw [h1] at h2
    cases h2
    obtain ⟨c, rfl, hc⟩ := keyT_ok ry hk
    obtain ⟨us, g1, g2⟩ := putD_ok k rv h4
    refine ⟨a, _, rfl, DPut.t h3 hc (by rw [show ((kvs.map (·.1)).zip vs).length = _ from zipV_len h4]; exact hz), p.put a (.dT (putK (zipV kvs vs) k vv)), rfl, ext_put hr nf, wf_put w, Cells.put w ce h1 nf ?_⟩
    exact ⟨nf, us, by show upd _ _ _ _ = _; rw [upd_same, g1]; rfl, g2.mono (ext_put hr nf).hf⟩
  · cases h
def kSubD2 (d : P) (σ : SS) (x : P) (Q : SS → LS → Prop) (y : P) (l : LS) : Prop := match d, x, y with
  | .d v, .loc n, .d k => dLen l n < sizeLine ∧ ∃ l', dPut l n k v = some l' ∧ Q σ l'
  | _, _, _ => False
def kSubD1 (wi : WE) (d : P) (σ : SS) (Q : SS → LS → Prop) (x : P) (l : LS) : Prop := wi σ l (kSubD2 d σ x Q) noEx
def gSubD (wo wi : WE) (d : P) (σ : SS) (l : LS) (Q : SS → LS → Prop) : Prop := wo σ l (kSubD1 wi d σ Q) noEx
theorem qg_subD (hu : X.A.units + 1 < cLine) (ho : QE X W o wo) (hi : QE X W i wi)
    (ha : ∀ v, assign (.Subscript o i pos) X.env v = (do
      let ov ← holding [v] (eval o X.env)
      let iv ← holding [v, ov] (eval i X.env)
      standAt pos
      holding [v, ov, iv] (setItem ov iv v)
      release [v, ov, iv] []) := by intro _; rfl) : QG X (.Subscript o i pos) (gSubD wo wi) := PG.imp (pg_sub ho hi (set_dict hu) ha) fun v σ H Q ⟨p, σd, l, d, Qd, hH, R, r, hw, k⟩ => by
  subst hH
  refine cE_ok R hw LinkE.never fun x l1 vx p1 e1 R1 r1 q1 => cE_ok R1 q1 LinkE.never fun y l2 vy p2 e2 R2 r2 q2 => ?_
  unfold kSubD2 at q2
  split at q2
  · obtain ⟨hz, l', h, q⟩ := q2
    obtain ⟨a, H', rfl, g, p3, rfl, e3, w3, c3⟩ := dPut_ok R2.wf R2.ce (r1.mono e2) r2 (RD.mono (e1.trans e2).hf r) h hz
    exact ⟨a, p3.H, rfl, g, k p3 σ σd l' ((e1.trans e2).trans e3) (R2.ext e3 w3 c3) q⟩
  · exact q2.elim
/-! ### d.get(k, x) -/
def kGet3 (x y : P) (Q : P → LS → Prop) (z : P) (l : LS) : Prop := match z with
  | .d z => ∃ o, dLook l x y = some o ∧ Q (.d (o.getD z)) l
  | _ => False
def kGet2 (wf : WE) (σ : SS) (x : P) (Q : P → LS → Prop) (E : EK) (y : P) (l : LS) : Prop := wf σ l (kGet3 x y Q) E
def kGet1 (wi wf : WE) (σ : SS) (Q : P → LS → Prop) (E : EK) (x : P) (l : LS) : Prop := ((dkOf l x).isSome = true ∨ (dtOf l x).isSome = true) ∧ wi σ l (kGet2 wf σ x Q E) E
def wGet (wo wi wf : WE) (σ : SS) (l : LS) (Q : P → LS → Prop) (E : EK) : Prop := wo σ l (kGet1 wi wf σ Q E) E
theorem isD_ok {K : PySem.W.Frag} {p : Pt} {l : LS} {x : P} {v : V} (ce : Cells K p l) (r : RP K p x v) (h : (dkOf l x).isSome = true ∨ (dtOf l x).isSome = true) : ∃ a, v = .ref a ∧ IsD p.H a := by
  rcases h with h | h
  · obtain ⟨kvs, e⟩ := Option.isSome_iff_exists.mp h
    obtain ⟨a, vs, rfl, h1, _⟩ := dkOf_ok ce r e
    exact ⟨a, rfl, .inl ⟨_, .inl h1⟩⟩
  · obtain ⟨kvs, e⟩ := Option.isSome_iff_exists.mp h
    obtain ⟨a, vs, rfl, h1, _⟩ := dtOf_ok ce r e
    exact ⟨a, rfl, .inr ⟨_, .inl h1⟩⟩
theorem qe_get2 {apos cpos : Pos} (hu : X.A.units + 1 < cLine) (ho : QE X W o wo) (he : QE X W e we) (hf : QE X W f wf) (m : M2 X o "get" apos e f cpos) : QE X W (.Call (.Attribute o "get" apos) [e, f] [] cpos) (wGet wo we wf) :=
  PE.imp (pe_dget2 hu ho he hf m) fun σ H Q ⟨p, σd, l, Qd, Ed, hH, R, hw, k, lk⟩ => by
    subst hH
    refine cE_ok R hw lk fun x l1 vx p1 e1 R1 r1 ⟨hd, q1⟩ => ?_
    obtain ⟨a, rfl, hD⟩ := isD_ok R1.ce r1 hd
    refine ⟨a, rfl, hD, cE_ok R1 q1 (lk.mono e1) fun y l2 vy p2 e2 R2 r2 q2 => cE_ok R2 q2 (lk.mono (e1.trans e2)) fun z l3 vz p3 e3 R3 r3 q3 => ?_⟩
    unfold kGet3 at q3
    split at q3
    · obtain ⟨ov, ho, q⟩ := q3
      obtain ⟨a', o', ea, g, hh⟩ := dLook_ok R3.ce (r1.mono (e2.trans e3)) (r2.mono e3) ho
      cases ea
      refine ⟨o', g, k _ _ _ p3 ((e1.trans e2).trans e3) R3 ?_ q⟩
      rcases hh with ⟨d, v, rfl, rfl, r⟩ | ⟨rfl, rfl⟩
      · exact r
      · exact r3
    · exact q3.elim
end
end QL
set_option Elab.async false
set_option linter.all false
set_option maxRecDepth 100000
set_option maxHeartbeats 4000000
/-! QD2: a display of one pair. -/
namespace QL
open PySem L2 PySem.Spec PyProof.Rows
def tDisp1T (tk tv : TE) : TE := fun σ H Q => ∀ p, H p = none → tk σ (upd H p (.dT [])) fun y H1 => tv σ H1 fun v H2 => H2 p = some (.dT []) ∧ ∃ b k, y = .ref b ∧ H2 b = some (.tup (k.map kV)) ∧ Q (.ref p) (upd H2 p (.dT [(k, v)]))
theorem pe_disp1T {X : Cx} {pos : Pos} {k v : Expr} {tk tv : TE} (hu : X.A.units + 1 < cLine) (hk : PE X k tk) (hv : PE X v tv) : PE X (.Dict [some k] [v] pos) (tDisp1T tk tv) := by
  refine ⟨fun pins s σ H Q I q => ?_⟩
  have hn := I.hok.fresh (Nat.le_refl s.heap.objs.size)
  have I1 := I.laid (a := s.heap.objs.size) (o := .dT []) (h' := s.heap.push { cls := .type "dict", data := .dict #[] }) (t' := s.toks) (fun _ _ q => Heap.get?_push_of_some _ q) (Nat.le_refl _) (dt_empty s.heap I.big)
  have hw := (pps_cons (pos := pos) hk hv pps_nil).run pins _ σ _ (fun ps H2 => match ps with
    | [(y, v)] => H2 s.heap.objs.size = some (.dT []) ∧ ∃ b k, y = .ref b ∧ H2 b = some (.tup (k.map kV)) ∧ Q (.ref s.heap.objs.size) (upd H2 s.heap.objs.size (.dT [(k, v)]))
    | _ => False) I1 (q _ hn)
  have hl : (pairTrees [some k] [v] X.env pos).length = 1 := pairTrees_length _ _ _ _ rfl rfl
  rw [arm_eval_Dict, zip_pairTrees [some k] [v] X.env pos rfl rfl, dictDisplay_pairs _ (by intro z; rw [z] at hl; cases hl) (by omega)]
  refine wpAny_bind (wpAny_standAt (wpAny_bind (wpAny_subDictH (knd := tupleKind (mixKind X.prog X.w)) (show X.A.units < cLine from Nat.lt_of_succ_lt hu) (by omega) (thn hw fun ws s2 ⟨ps, H2, I2, rel, q2⟩ => ?_))))
  cases rel with
  | nil => exact q2.elim
  | @cons p1 w1 ps ws r0 t =>
    cases t with
    | cons _ _ => exact q2.elim
    | nil =>
      obtain ⟨y, vv⟩ := p1
      obtain ⟨wy, wv⟩ := w1
      obtain ⟨e, b, kk, ey, hb, q2⟩ := q2
      subst ey
      obtain ⟨ry, rv⟩ := r0
      obtain rfl : wy = Value.ref b := ry
      obtain ⟨z, hd, xs, r1, dd⟩ := dt_of I2.hok e
      cases r1
      refine ⟨[(kk, b, wv)], ⟨rfl, rfl, key_of I2.hok hb, True.intro⟩, dd, fun h' tk dd' hs => wpAny_pure ⟨.ref s.heap.objs.size, _, ?_, rfl, q2⟩⟩
      have e1 : storedAllH [] [(kk, b, wv)] = [(kk, b, wv)] := rfl
      rw [e1] at dd'
      obtain ⟨qo, es, ep, hq, h2, h3, h4, _, h5⟩ := dd'
      refine d_write I2 (by rw [e]; exact True.intro) hs ⟨qo, hq⟩ ⟨by rw [List.length_singleton, sizeLine_eq]; omega, hd, [(kk, b, wv)], .cons ⟨rfl, ?_, rv⟩ .nil, qo, es, ep, hq, h2, h3, h4, h5⟩
      rw [upd_ne (ne_of hb e (fun z => nomatch z))]
      exact hb
/-! ### an object that is made before its parts -/
section
variable {K : PySem.W.Frag} {p p2 : Pt} {a : Addr} {l l2 : LS}
abbrev Pt.hid (p : Pt) (a : Addr) (o : HO) : Pt := ⟨upd p.H a o, p.rho, p.F⟩
theorem hid_ext {o : HO} (ha : p.H a = none) : Ext p (p.hid a o) :=
  ⟨⟨[], by simp⟩, fun _ z => .inl z, fun _ z => z, fun _ z => .inl z, fun b u z _ => by show upd _ _ _ _ = _; rw [upd_ne (ne_of_none z ha)]; exact z, fun b u z _ => by show upd _ _ _ _ = _; rw [upd_ne (ne_of_none z ha)]; exact z, fun b u z => upd_some z⟩
theorem hid_wf {o : HO} (w : WF p) : WF (p.hid a o) :=
  ⟨w.nd, fun b m => let ⟨_, z⟩ := w.hs b m; upd_some z, fun b m => let ⟨_, z⟩ := w.fs b m; upd_some z⟩
theorem hid_cells {o : HO} (w : WF p) (ce : Cells K p l) (ha : p.H a = none) : Cells K (p.hid a o) l := by
  refine ⟨ce.1, fun i c e => ?_⟩
  obtain ⟨b, h1, h2⟩ := ce.2 i c e
  have nb : b ≠ a := fun z => w.nrho ha (by rw [← z]; exact List.mem_of_getElem? h1)
  exact ⟨b, h1, h2.mono (hid_ext ha) (by show upd _ _ _ _ = _; rw [upd_ne nb]) fun z => z⟩
abbrev Pt.shw (p : Pt) (a : Addr) (o : HO) : Pt := ⟨upd p.H a o, p.rho ++ [a], p.F⟩
theorem hid_out {o : HO} (w : WF p) (ha : p.H a = none) (e : Ext (p.hid a o) p2) : p2.H a = some o ∧ a ∉ p2.rho ∧ ¬ p2.F a := by
  have nr := w.nrho ha
  have nf := w.nF ha
  have h1 : (p.hid a o).H a = some o := upd_same
  refine ⟨e.keep a o h1 nr, fun m => ?_, fun m => ?_⟩
  · rcases e.new a m with z | z
    · exact nr z
    · rw [h1] at z; cases z
  · rcases e.fn a m with z | z | z
    · exact nf z
    · rw [h1] at z; cases z
    · exact nr z
theorem shw_ok {o o3 : HO} {c : Cell} (w : WF p) (ha : p.H a = none) (e : Ext (p.hid a o) p2) (w2 : WF p2) (c2 : Cells K p2 l2) (hc : CellOk K (p2.shw a o3) c a) : Ext p (p2.shw a o3) ∧ WF (p2.shw a o3) ∧ Cells K (p2.shw a o3) (l2 ++ [c]) ∧ HF p2 (p2.shw a o3) := by
  obtain ⟨h1, nr, nf⟩ := hid_out w ha e
  have e0 : Ext p p2 := (hid_ext ha).trans e
  have hf : HF p2 (p2.shw a o3) := ⟨fun _ z => z, fun b u z f => by show upd _ _ _ _ = _; rw [upd_ne fun q => nf (by rw [← q]; exact f)]; exact z⟩
  obtain ⟨t, ht⟩ := e0.pre
  refine ⟨⟨⟨t ++ [a], by show p2.rho ++ [a] = _; rw [ht, List.append_assoc]⟩, fun b z => ?_, e0.fm, e0.fn, fun b u z n => ?_, fun b u z n => ?_, fun b u z => ?_⟩, ⟨?_, fun b m => ?_, fun b m => ?_⟩, ⟨by simp [c2.1], fun i d q => ?_⟩, hf⟩
  · rcases List.mem_append.mp z with z | z
    · exact e0.new b z
    · simp at z
      exact .inr (by rw [z]; exact ha)
  · show upd _ _ _ _ = _
    rw [upd_ne (ne_of_none z ha)]; exact e0.keep b u z n
  · show upd _ _ _ _ = _
    rw [upd_ne (ne_of_none z ha)]; exact e0.keepF b u z n
  · obtain ⟨o', z'⟩ := e0.there b u z
    exact upd_some z'
  · show (p2.rho ++ [a]).Nodup
    rw [List.nodup_append]
    refine ⟨w2.nd, by simp, fun x hx y hy q => ?_⟩
    simp at hy
    exact nr (by rw [← hy, ← q]; exact hx)
  · rcases List.mem_append.mp m with m | m
    · obtain ⟨u, z⟩ := w2.hs b m
      exact upd_some z
    · simp at m
      exact ⟨o3, by show upd _ _ _ _ = _; rw [m, upd_same]⟩
  · obtain ⟨u, z⟩ := w2.fs b m
    exact upd_some z
  · by_cases hi : i < l2.length
    · rw [List.getElem?_append_left hi] at q
      obtain ⟨b, q1, q2⟩ := c2.2 i d q
      have nb : b ≠ a := fun z => nr (by rw [← z]; exact List.mem_of_getElem? q1)
      refine ⟨b, ?_, q2.hf hf (by show upd _ _ _ _ = _; rw [upd_ne nb]) fun z => z⟩
      show (p2.rho ++ [a])[i]? = _
      rw [List.getElem?_append_left (by rw [← c2.1]; exact hi)]
      exact q1
    · have hi' : i = l2.length := by
        have := (List.getElem?_eq_some_iff.mp q).1
        simp at this
        omega
      subst hi'
      rw [List.getElem?_append_right (Nat.le_refl _)] at q
      simp at q
      subst q
      refine ⟨a, ?_, hc⟩
      show (p2.rho ++ [a])[l2.length]? = _
      rw [c2.1, List.getElem?_append_right (Nat.le_refl _)]
      simp
end
def mkK (y v : D) : Option Cell := (keyD y).map fun k => .dk [(k, v)]
def mkT (y v : D) : Option Cell := (keyT y).map fun k => .dt [(k, v)]
def kDs2 (mk : D → D → Option Cell) (y : P) (Q : P → LS → Prop) (v : P) (l : LS) : Prop := match y, v with
  | .d y, .d v => ∃ c, mk y v = some c ∧ Q (.loc l.length) (l ++ [c])
  | _, _ => False
def kDs1 (mk : D → D → Option Cell) (wv : WE) (σ : SS) (Q : P → LS → Prop) (E : EK) (y : P) (l : LS) : Prop := wv σ l (kDs2 mk y Q) E
def wDs (mk : D → D → Option Cell) (wk wv : WE) (σ : SS) (l : LS) (Q : P → LS → Prop) (E : EK) : Prop := wk σ l (kDs1 mk wv σ Q E) E
section
variable {X : Cx} {W : WX} {e f : Expr} {we wf : WE} {pos : Pos}
theorem shw_ref {K : PySem.W.Frag} {p2 : Pt} {a : Addr} {o : HO} {l2 : LS} (c2 : Cells K p2 l2) : RP K (p2.shw a o) (.loc l2.length) (.ref a) := ⟨a, by
  show (p2.rho ++ [a])[l2.length]? = some a
  rw [c2.1, List.getElem?_append_right (Nat.le_refl _)]
  simp, rfl⟩
theorem qe_dispT (hu : X.A.units + 1 < cLine) (hk : QE X W e we) (hv : QE X W f wf) : QE X W (.Dict [some e] [f] pos) (wDs mkT we wf) := PE.imp (pe_disp1T hu hk hv) fun σ H Q ⟨p, σd, l, Qd, Ed, hH, R, hw, k, lk⟩ => by
  subst hH
  refine fun a ha => ?_
  have e0 : Ext p (p.hid a (.dT [])) := hid_ext ha
  have R0 : Rel X.K (p.hid a (.dT [])) σ σd l := R.ext e0 (hid_wf R.wf) (hid_cells R.wf R.ce ha)
  refine cE_ok R0 hw (lk.mono e0) fun y l1 vy p1 e1 R1 r1 q1 => cE_ok R1 q1 (lk.mono (e0.trans e1)) fun v l2 vv p2 e2 R2 r2 q2 => ?_
  have e12 := e1.trans e2
  obtain ⟨h1, nr, nf⟩ := hid_out R.wf ha e12
  unfold kDs2 at q2
  split at q2
  · obtain ⟨c, hc, q⟩ := q2
    obtain ⟨kk, hk, rfl⟩ := Option.map_eq_some_iff.mp hc
    obtain ⟨b, rfl, hb⟩ := keyT_ok (RD.mono e2.hf r1) hk
    refine ⟨h1, b, kk, rfl, hb, ?_⟩
    have hf : HF p2 (p2.shw a (.dT [(kk, vv)])) := ⟨fun _ z => z, fun b u z f => by show upd _ _ _ _ = _; rw [upd_ne fun q => nf (by rw [← q]; exact f)]; exact z⟩
    obtain ⟨e3, w3, c3, _⟩ := shw_ok (o3 := .dT [(kk, vv)]) R.wf ha e12 R2.wf R2.ce (show CellOk X.K (p2.shw a (.dT [(kk, vv)])) (.dt [(kk, _)]) a from ⟨nf, [vv], upd_same, .cons (RD.mono hf r2) .nil⟩)
    exact k _ _ _ (p2.shw a (.dT [(kk, vv)])) e3 (R.ext e3 w3 c3) (shw_ref R2.ce) q
  · exact q2.elim
theorem qe_dispK (hk : QE X W e we) (hv : QE X W f wf) : QE X W (.Dict [some e] [f] pos) (wDs mkK we wf) := PE.imp (pe_disp (pps_cons hk hv pps_nil) (by rfl) (by rfl) (by intro z; cases z) (by show 1 ≤ 15; decide)) fun σ H Q ⟨p, σd, l, Qd, Ed, hH, R, hw, k, lk⟩ => by
  subst hH
  refine fun a ha => ?_
  have e0 : Ext p (p.hid a (.dK [])) := hid_ext ha
  have R0 : Rel X.K (p.hid a (.dK [])) σ σd l := R.ext e0 (hid_wf R.wf) (hid_cells R.wf R.ce ha)
  refine cE_ok R0 hw (lk.mono e0) fun y l1 vy p1 e1 R1 r1 q1 => cE_ok R1 q1 (lk.mono (e0.trans e1)) fun v l2 vv p2 e2 R2 r2 q2 => ?_
  have e12 := e1.trans e2
  obtain ⟨h1, nr, nf⟩ := hid_out R.wf ha e12
  unfold kDs2 at q2
  split at q2
  · obtain ⟨c, hc, q⟩ := q2
    obtain ⟨kk, hk, rfl⟩ := Option.map_eq_some_iff.mp hc
    have ek := keyD_ok (RD.mono e2.hf r1) hk
    subst ek
    refine ⟨h1, [(kk, vv)], rfl, by simp, ?_⟩
    have hf : HF p2 (p2.shw a (.dK [(kk, vv)])) := ⟨fun _ z => z, fun b u z f => by show upd _ _ _ _ = _; rw [upd_ne fun q => nf (by rw [← q]; exact f)]; exact z⟩
    obtain ⟨e3, w3, c3, _⟩ := shw_ok (o3 := .dK [(kk, vv)]) R.wf ha e12 R2.wf R2.ce (show CellOk X.K (p2.shw a (.dK [(kk, vv)])) (.dk [(kk, _)]) a from ⟨nf, [vv], upd_same, .cons (RD.mono hf r2) .nil⟩)
    exact k _ _ _ (p2.shw a (.dK [(kk, vv)])) e3 (R.ext e3 w3 c3) (shw_ref R2.ce) q
  · exact q2.elim
end
end QL
set_option Elab.async false
set_option linter.all false
set_option maxRecDepth 100000
set_option maxHeartbeats 4000000
/-! QD3: len of a dict. -/
open PySem L2 in
theorem L2.Room.u1 {k : Nat} {A : Around} (r : Room k A) : A.units + 1 < cLine := by have := r.un; omega
namespace QL
open PySem L2
def rLenDc : List V → Hp → VK → Prop := fun xs H Q => (∃ a kvs, xs = [V.ref a] ∧ H a = some (.dK kvs) ∧ Q (.int kvs.length) H) ∨ ∃ a kvs, xs = [V.ref a] ∧ H a = some (.dT kvs) ∧ Q (.int kvs.length) H
theorem call_lenDc {X : Cx} : CallR X (.builtin "len") rLenDc := fun pins s σ H xs us Q I r h => by
  rcases h with h | ⟨a, kvs, rfl, ha, q⟩
  · exact call_lenD pins s σ H xs us Q I r h
  · obtain ⟨u, rfl, ru⟩ := vals1 r
    cases ru
    obtain ⟨z, hd, ys, rel, dd⟩ := dt_of I.hok ha
    have e : kvs.length = ys.length := Paired.length rel
    refine call_len_dictH hd dd (by rw [← e]; rw [sizeLine_eq] at z; omega) ?_
    rw [← e]
    exact ⟨.int kvs.length, H, I.tok _, ⟨_, rfl⟩, q⟩
def bLenDc (xs : List P) (l : LS) (Q : P → LS → Prop) : Prop := match xs with
  | [x] => match dkOf l x with
    | some kvs => Q (.d (.int (kvs.length : Int))) l
    | none => match dtOf l x with
      | some kvs => Q (.d (.int (kvs.length : Int))) l
      | none => False
  | _ => False
theorem ref_lenDc {K : PySem.W.Frag} : RefCall K rLenDc bLenDc := fun p l xs vs Qd Q w ce rx h k => by
  unfold bLenDc at h
  split at h
  · obtain ⟨v, rfl, r⟩ := rx.one
    split at h
    · rename_i kvs hy
      obtain ⟨a, us, rfl, h1, h2⟩ := dkOf_ok ce r hy
      refine .inl ⟨a, _, rfl, h1, ?_⟩
      rw [zipV_len h2]
      exact k.same w ce (d := .d _) (RD.int _) h
    · split at h
      · rename_i kvs hy
        obtain ⟨a, us, rfl, h1, h2⟩ := dtOf_ok ce r hy
        refine .inr ⟨a, _, rfl, h1, ?_⟩
        rw [zipV_len h2]
        exact k.same w ce (d := .d _) (RD.int _) h
      · exact h.elim
  · exact h.elim
/-- over a tuple or a list -/
def iOr (w1 w2 : WI) (σ : SS) (l : LS) (R : Items → LS → Prop) (E : EK) : Prop := w1 σ l R E ∨ w2 σ l R E
theorem qi_or {X : Cx} {W : WX} {tg e : Expr} {w1 w2 : WI} (h1 : QI X W tg e w1) (h2 : QI X W tg e w2) : QI X W tg e (iOr w1 w2) := ⟨fun pins s σ H R I ⟨p, σd, l, Rd, Ed, hH, R0, hw, k, lk⟩ => by
  rcases hw with hw | hw
  · exact h1.run pins s σ H R I ⟨p, σd, l, Rd, Ed, hH, R0, hw, k, lk⟩
  · exact h2.run pins s σ H R I ⟨p, σd, l, Rd, Ed, hH, R0, hw, k, lk⟩⟩
end QL
set_option Elab.async false
set_option linter.all false
set_option maxRecDepth 100000
set_option maxHeartbeats 4000000
/-! M02: splitting a text into tokens. -/
namespace M02
open PySem L2 QL
def LET : Str := "abcdefghijklmnopqrstuvwxyzABCDEFGHIJKLMNOPQRSTUVWXYZ"
def FIG : Str := "0123456789"
def RUNS : Str := "abcdefghijklmnopqrstuvwxyzABCDEFGHIJKLMNOPQRSTUVWXYZ0123456789"
def MARKS : Str := ⟨#[33, 34, 35, 36, 38, 39, 40, 41, 42, 43, 44, 45, 46, 47, 58, 59, 60, 61, 62, 63, 64, 91, 92, 93, 94, 95, 96, 123, 124, 125, 126, 9]⟩
def al (c : Nat) : Prop := c ∈ RUNS.cps.toList
instance : DecidablePred al := fun c => inferInstanceAs (Decidable (c ∈ RUNS.cps.toList))
theorem runs_eq : RUNS.cps.toList = LET.cps.toList ++ FIG.cps.toList := by decide +kernel
theorem al_iff (c : Nat) : al c ↔ (c ∈ LET.cps.toList ∨ c ∈ FIG.cps.toList) := by unfold al; rw [runs_eq, List.mem_append]
abbrev SL := List (List Nat) × List Nat
def flush (r : List Nat) : List (List Nat) := if r = [] then [] else [r]
def tok (c : Nat) : List (List Nat) := if c = 32 ∨ c = 10 then [] else [[c]]
def step (s : SL) (c : Nat) : SL := if al c then (s.1, s.2 ++ [c]) else (s.1 ++ flush s.2 ++ tok c, [])
def run (s : SL) (cs : List Nat) : SL := cs.foldl step s
def fin (s : SL) : List (List Nat) := s.1 ++ flush s.2
def splitL (cs : List Nat) : List (List Nat) := fin (run ([], []) cs)
theorem run_app (s : SL) (xs ys : List Nat) : run s (xs ++ ys) = run (run s xs) ys := List.foldl_append
theorem run_one (s : SL) (c : Nat) : run s [c] = step s c := rfl
theorem run_pre (T : List (List Nat)) : ∀ (cs : List Nat) (s : SL), run (T ++ s.1, s.2) cs = (T ++ (run s cs).1, (run s cs).2)
  | [], s => rfl
  | c :: r, s => by
    have e : step (T ++ s.1, s.2) c = (T ++ (step s c).1, (step s c).2) := by
      unfold step
      by_cases h : al c
      · simp [h]
      · simp [h, List.append_assoc]
    show run (step (T ++ s.1, s.2) c) r = _
    rw [e, run_pre T r (step s c)]
    rfl
theorem run_sep {c : Nat} (h : ¬ al c) (s : SL) : step s c = (fin s ++ tok c, []) := by unfold step fin; simp [h]
/-- the last run is a tail of what was read -/
theorem run_tail : ∀ (cs : List Nat), ∃ pre, cs = pre ++ (run ([], []) cs).2 := by
  intro cs
  rw [← List.reverse_reverse cs]
  generalize cs.reverse = r
  induction r with
  | nil => exact ⟨[], rfl⟩
  | cons c r ih =>
    obtain ⟨pre, e⟩ := ih
    rw [List.reverse_cons, run_app, run_one]
    by_cases h : al c
    · refine ⟨pre, ?_⟩
      rw [show step (run ([], []) r.reverse) c = ((run ([], []) r.reverse).1, (run ([], []) r.reverse).2 ++ [c]) by unfold step; simp [h]]
      rw [← List.append_assoc, ← e]
    · refine ⟨r.reverse ++ [c], ?_⟩
      rw [run_sep h]
      simp
theorem split_sep {c : Nat} (h : ¬ al c) (xs ys : List Nat) : splitL (xs ++ c :: ys) = splitL xs ++ tok c ++ splitL ys := by
  unfold splitL
  rw [show xs ++ c :: ys = xs ++ ([c] ++ ys) by simp, run_app, run_app, run_one, run_sep h]
  have := run_pre (fin (run ([], []) xs) ++ tok c) ys ([], [])
  rw [List.append_nil] at this
  rw [this]
  unfold fin
  simp
theorem split_nil : splitL [] = [] := rfl
theorem run_al {xs : List Nat} (h : ∀ c ∈ xs, al c) : ∀ s : SL, run s xs = (s.1, s.2 ++ xs) := by
  induction xs with
  | nil => intro s; simp [run]
  | cons c r ih =>
    intro s
    show run (step s c) r = _
    have hc := h c (by simp)
    rw [show step s c = (s.1, s.2 ++ [c]) by unfold step; simp [hc], ih (fun x hx => h x (by simp [hx]))]
    simp
theorem split_al {xs : List Nat} (h : ∀ c ∈ xs, al c) (hn : xs ≠ []) : splitL xs = [xs] := by
  unfold splitL fin
  rw [run_al h]
  simp [flush, hn]
theorem al32 : ¬ al 32 := by decide +kernel
theorem al10 : ¬ al 10 := by decide +kernel
theorem al59 : ¬ al 59 := by decide +kernel
theorem split_blank (n : Nat) : splitL (List.replicate n 32) = [] := by
  induction n with
  | zero => rfl
  | succ n ih =>
    have := split_sep al32 [] (List.replicate n 32)
    rw [List.nil_append] at this
    rw [List.replicate_succ, this, ih]
    rfl
theorem split_semi (n : Nat) : splitL (List.replicate n 59) = List.replicate n [59] := by
  induction n with
  | zero => rfl
  | succ n ih =>
    have := split_sep al59 [] (List.replicate n 59)
    rw [List.nil_append] at this
    rw [List.replicate_succ, this, ih, List.replicate_succ]
    rfl
theorem split_lines (m n : Nat) : splitL (List.replicate m 32 ++ List.replicate n 10) = [] := by
  induction n with
  | zero => rw [List.replicate_zero, List.append_nil, split_blank]
  | succ n ih =>
    have := split_sep al10 (List.replicate m 32 ++ List.replicate n 10) []
    rw [List.replicate_succ', ← List.append_assoc, this, ih]
    rfl
theorem split_times (xs : List Nat) (n : Nat) : splitL (List.replicate n (xs ++ [10])).flatten = (List.replicate n (splitL xs)).flatten := by
  induction n with
  | zero => rfl
  | succ n ih =>
    rw [List.replicate_succ, List.flatten_cons, List.append_assoc, List.singleton_append, split_sep al10, ih, List.replicate_succ, List.flatten_cons]
    simp [tok]
theorem al98 : al 98 := by decide +kernel
theorem al99 : al 99 := by decide +kernel
theorem al97 : al 97 := by decide +kernel
theorem split_bs (n odd : Nat) (h : odd ≤ 1) : splitL ((List.replicate n [98, 10]).flatten ++ List.replicate odd 99) = List.replicate n [98] ++ List.replicate odd [99] := by
  induction n with
  | zero =>
    rcases (by omega : odd = 0 ∨ odd = 1) with e | e <;> subst e
    · rfl
    · exact split_al (by intro c hc; simp at hc; rw [hc]; exact al99) (by simp)
  | succ n ih =>
    rw [List.replicate_succ, List.flatten_cons, List.append_assoc, show ([98, 10] : List Nat) ++ ((List.replicate n [98, 10]).flatten ++ List.replicate odd 99) = [98] ++ 10 :: ((List.replicate n [98, 10]).flatten ++ List.replicate odd 99) by simp, split_sep al10, ih,
      split_al (by intro c hc; simp at hc; rw [hc]; exact al98) (by simp)]
    simp [tok, List.replicate_succ]
/-- texts -/
def toS (c : List Nat) : Str := ⟨c.toArray⟩
def splitS (t : Str) : List Str := (splitL t.cps.toList).map toS
theorem toS_app (a b : List Nat) : toS a ++ toS b = toS (a ++ b) := by
  show (⟨a.toArray ++ b.toArray⟩ : Str) = ⟨(a ++ b).toArray⟩
  simp
theorem toS_of (t : Str) : t = toS t.cps.toList := by cases t; rfl
theorem run_blank {g : List Nat} (h : ∀ x ∈ g, x = 32 ∨ x = 10) : ∀ s : SL, run s g = if g = [] then s else (fin s, []) := by
  induction g with
  | nil => intro s; rfl
  | cons c r ih =>
    intro s
    have hc := h c (by simp)
    have hn : ¬ al c := by rcases hc with e | e <;> rw [e]; exact al32; exact al10
    have ht : tok c = [] := by unfold tok; rw [if_pos hc]
    show run (step s c) r = _
    rw [run_sep hn, ht, List.append_nil, ih (fun x hx => h x (by simp [hx]))]
    by_cases hr : r = [] <;> simp [hr, fin, flush]
theorem piece_run {c t g : List Nat} (ht : ∀ x ∈ t, al x) (hn : t ≠ []) (hg : ∀ x ∈ g, x = 32 ∨ x = 10) {c0 : List Nat} (h0 : ((run ([], []) c).2 ≠ [] ∧ c0 = c ++ [32]) ∨ ((run ([], []) c).2 = [] ∧ c0 = c)) :
    splitL (c0 ++ t ++ g) = splitL c ++ [t] ∧ ((run ([], []) (c0 ++ t ++ g)).2 ≠ [] ↔ g = []) := by
  have e : run ([], []) c0 = (splitL c, []) := by
    rcases h0 with ⟨h, rfl⟩ | ⟨h, rfl⟩
    · rw [run_app, run_one, run_sep al32]
      simp [tok, splitL]
    · unfold splitL fin
      rw [h]
      apply Prod.ext
      · simp [flush]
      · exact h
  have e2 : run ([], []) (c0 ++ t ++ g) = if g = [] then (splitL c, t) else (splitL c ++ [t], []) := by
    rw [run_app, run_app, e, run_al ht, run_blank hg]
    simp [fin, flush, hn]
  constructor
  · show fin (run ([], []) (c0 ++ t ++ g)) = _
    rw [e2]
    by_cases h : g = [] <;> simp [h, fin, flush, hn]
  · rw [e2]
    by_cases h : g = [] <;> simp [h, hn]
theorem piece_mark {c g : List Nat} {m : Nat} (hm : ¬ al m) (h32 : m ≠ 32) (h10 : m ≠ 10) (hg : ∀ x ∈ g, x = 32 ∨ x = 10) :
    splitL (c ++ [m] ++ g) = splitL c ++ [[m]] ∧ (run ([], []) (c ++ [m] ++ g)).2 = [] := by
  have e2 : run ([], []) (c ++ [m] ++ g) = (splitL c ++ [[m]], []) := by
    rw [run_app, run_app, run_one, run_sep hm, run_blank hg]
    by_cases h : g = [] <;> simp [h, fin, flush, tok, h32, h10, splitL]
  exact ⟨by show fin _ = _; rw [e2]; simp [fin, flush], by rw [e2]⟩
theorem marks_ok : ∀ m ∈ MARKS.cps.toList, ¬ al m ∧ m ≠ 32 ∧ m ≠ 10 ∧ m < 128 := by decide +kernel
theorem runs_ok : ∀ m ∈ RUNS.cps.toList, m < 128 := by decide +kernel
theorem runs_len : RUNS.cps.toList.length = 62 := by decide +kernel
theorem marks_len : MARKS.cps.toList.length = 32 := by decide +kernel
theorem toS_len (c : List Nat) : (toS c).length = c.length := by simp [toS, Str.length]
theorem toS_list (c : List Nat) : (toS c).cps.toList = c := by simp [toS]
theorem split_len (c : List Nat) : (splitL c).length ≤ c.length := by
  have h : ∀ (cs : List Nat) (s : SL), (fin (run s cs)).length ≤ (fin s).length + cs.length := by
    intro cs
    induction cs with
    | nil => intro s; exact Nat.le_refl _
    | cons c r ih =>
      intro s
      have := ih (step s c)
      have e : (fin (step s c)).length ≤ (fin s).length + 1 := by
        unfold step
        by_cases h : al c
        · rw [if_pos h]
          unfold fin flush
          by_cases h2 : s.2 = [] <;> simp [h2]
        · rw [if_neg h]
          unfold fin flush tok
          by_cases h2 : s.2 = [] <;> by_cases h3 : c = 32 ∨ c = 10 <;> simp [h2, h3]
      show (fin (run (step s c) r)).length ≤ _
      simp only [List.length_cons]
      omega
  have := h c ([], [])
  simpa [fin, flush, splitL] using this
theorem toS_ne {a b : List Nat} : (toS a == toS b) = decide (a = b) := by
  by_cases h : a = b
  · subst h; simp
  · have : toS a ≠ toS b := fun e => h (by have := congrArg (fun z => z.cps.toList) e; simpa [toS] using this)
    simp [h, this]
theorem run_len (cs : List Nat) : (run ([], []) cs).1.length ≤ cs.length ∧ (run ([], []) cs).2.length ≤ cs.length := by
  constructor
  · have := split_len cs
    unfold splitL fin at this
    rw [List.length_append] at this
    omega
  · obtain ⟨pre, e⟩ := run_tail cs
    have := congrArg List.length e
    rw [List.length_append] at this
    omega
theorem strOk_of {c : List Nat} (h : ∀ x ∈ c, x < 128) : PyData.strOk (toS c) = true := by
  unfold PyData.strOk toS
  rw [Array.all_eq_true_iff_forall_mem]
  intro x hx
  have := h x (by simpa using hx)
  exact decide_eq_true (by omega)
theorem run_ok {cs : List Nat} (h : ∀ x ∈ cs, x < 128) : ∀ x ∈ (run ([], []) cs).2, x < 128 := by
  obtain ⟨pre, e⟩ := run_tail cs
  intro x hx
  exact h x (by rw [e]; exact List.mem_append_right _ hx)
theorem split_ok {cs : List Nat} (h : ∀ x ∈ cs, x < 128) : ∀ t ∈ splitL cs, ∀ x ∈ t, x < 128 := by
  have key : ∀ (r : List Nat) (s : SL), (∀ t ∈ s.1, ∀ x ∈ t, x < 128) → (∀ x ∈ s.2, x < 128) → (∀ x ∈ r, x < 128) → (∀ t ∈ fin (run s r), ∀ x ∈ t, x < 128) := by
    intro r
    induction r with
    | nil =>
      intro s h1 h2 _ t ht
      rcases List.mem_append.mp ht with ht | ht
      · exact h1 t ht
      · unfold flush at ht
        split at ht
        · simp at ht
        · simp at ht
          rw [ht]
          exact h2
    | cons c r ih =>
      intro s h1 h2 h3
      refine ih (step s c) ?_ ?_ (fun x hx => h3 x (by simp [hx]))
      · intro t ht
        unfold step at ht
        split at ht
        · exact h1 t ht
        · rcases List.mem_append.mp ht with ht | ht
          · rcases List.mem_append.mp ht with ht | ht
            · exact h1 t ht
            · unfold flush at ht
              split at ht
              · simp at ht
              · simp at ht
                rw [ht]
                exact h2
          · unfold tok at ht
            split at ht
            · simp at ht
            · simp at ht
              rw [ht]
              intro x hx
              simp at hx
              rw [hx]
              exact h3 c (by simp)
      · intro x hx
        unfold step at hx
        split at hx
        · rcases List.mem_append.mp hx with hx | hx
          · exact h2 x hx
          · simp at hx
            rw [hx]
            exact h3 c (by simp)
        · simp at hx
  exact key cs ([], []) (by simp) (by simp) h
theorem repS_toS (x : List Nat) (n : Nat) : repS (toS x) (n : Int) = toS (List.replicate n x).flatten := by
  unfold repS
  rw [Int.toNat_natCast, toS_list]
  rfl
end M02
set_option Elab.async false
set_option linter.all false
set_option maxRecDepth 100000
set_option maxHeartbeats 4000000
/-! M08: machines as plain data. -/
namespace M08
open PySem L2 QL
open QL (D P LS SS WE)
def natsD (ns : List Nat) : List D := ns.map fun (n : Nat) => .int (n : Int)
theorem natsD_len {ns : List Nat} : (natsD ns).length = ns.length := by simp [natsD]
theorem natsD_app {xs ys : List Nat} : natsD (xs ++ ys) = natsD xs ++ natsD ys := by simp [natsD]
theorem natsD_get {ns : List Nat} {i : Nat} {d : D} (h : (natsD ns)[i]? = some d) : ∃ n, ns[i]? = some n ∧ d = .int (n : Int) := by
  unfold natsD at h
  rw [List.getElem?_map] at h
  obtain ⟨n, h1, rfl⟩ := Option.map_eq_some_iff.mp h
  exact ⟨n, h1, rfl⟩
/-- a machine: width, states, start, the next states, what is shown -/
structure Mc where
  w : Nat
  many : Nat
  s : Nat
  nx : List Nat
  ou : List Nat
def Mc.ok (m : Mc) : Prop := 1 ≤ m.w ∧ m.nx.length = m.many * m.w ∧ m.ou.length = m.many * m.w ∧ (∀ c ∈ m.nx, c < m.many) ∧ m.s < m.many ∧ m.w ≤ 100 ∧ m.many ≤ 1000
def mcD (m : Mc) : D := .tup [.int (m.w : Int), .int (m.s : Int), .tup (natsD m.nx), .tup (natsD m.ou)]
def Mc.st (m : Mc) (s x : Nat) : Nat := m.nx.getD (s * m.w + x) 0
def Mc.out (m : Mc) (s x : Nat) : Nat := m.ou.getD (s * m.w + x) 0
def Mc.run (m : Mc) : Nat → List Nat → List Nat
  | _, [] => []
  | s, x :: xs => m.out s x :: m.run (m.st s x) xs
def Mc.aft (m : Mc) : Nat → List Nat → Nat
  | s, [] => s
  | s, x :: xs => m.aft (m.st s x) xs
theorem cell_lt {many w s x : Nat} (hs : s < many) (hx : x < w) : s * w + x < many * w := by
  have : (s + 1) * w ≤ many * w := Nat.mul_le_mul_right w hs
  rw [Nat.add_mul, Nat.one_mul] at this
  omega
theorem Mc.st_lt {m : Mc} (h : m.ok) {s x : Nat} (hs : s < m.many) (hx : x < m.w) : m.st s x < m.many := by
  have hc := cell_lt hs hx
  rw [← h.2.1] at hc
  have : m.st s x = m.nx[s * m.w + x] := by simp [Mc.st, List.getD, hc]
  rw [this]
  exact h.2.2.2.1 _ (List.getElem_mem hc)
theorem Mc.run_snoc (m : Mc) (x : Nat) : ∀ (s : Nat) (xs : List Nat), m.run s (xs ++ [x]) = m.run s xs ++ [m.out (m.aft s xs) x]
  | s, [] => rfl
  | s, y :: ys => by
    show m.out s y :: m.run (m.st s y) (ys ++ [x]) = m.out s y :: (m.run (m.st s y) ys ++ [_])
    rw [Mc.run_snoc m x (m.st s y) ys]
    rfl
theorem Mc.aft_snoc (m : Mc) (x : Nat) : ∀ (s : Nat) (xs : List Nat), m.aft s (xs ++ [x]) = m.st (m.aft s xs) x
  | s, [] => rfl
  | s, y :: ys => Mc.aft_snoc m x (m.st s y) ys
theorem Mc.aft_lt {m : Mc} (h : m.ok) : ∀ {xs : List Nat} {s : Nat}, s < m.many → (∀ x ∈ xs, x < m.w) → m.aft s xs < m.many
  | [], s, hs, _ => hs
  | x :: xs, s, hs, hx => Mc.aft_lt (xs := xs) (s := m.st s x) h (m.st_lt h hs (hx x List.mem_cons_self)) fun y hy => hx y (List.mem_cons_of_mem _ hy)
theorem Mc.run_len (m : Mc) : ∀ (s : Nat) (xs : List Nat), (m.run s xs).length = xs.length
  | _, [] => rfl
  | s, x :: xs => by simp [Mc.run, Mc.run_len m (m.st s x) xs]
/-- a cell of a machine's row -/
theorem atI_nat {ns : List Nat} {k : Nat} {z : Int} (hz : z = (k : Int)) (h : k < ns.length) : atI (natsD ns) z = some (.int (ns.getD k 0 : Nat)) := by
  unfold natsD
  rw [atI_m (f := fun n : Nat => D.int (n : Int)) hz (List.getElem?_eq_getElem h)]
  simp [List.getD, h]
/-! ### several machines that feed one -/
/-- the row that the inner machines show, a number of mixed base -/
def rowN (inn : List Mc) (sz : List Nat) (st : List Nat) (x : Nat) : Nat → Nat
  | 0 => 0
  | i + 1 => rowN inn sz st x i * sz.getD i 0 + (inn.getD i ⟨0, 0, 0, [], []⟩).out (st.getD i 0) x
def behN (inn : List Mc) (st : List Nat) (x : Nat) (i : Nat) : List Nat := (List.range i).map fun j => (inn.getD j ⟨0, 0, 0, [], []⟩).st (st.getD j 0) x
/-! ### all rows over sizes -/
def rowsN (sz : List Nat) : List (List Nat) := sz.foldl (fun rows z => rows.flatMap fun r => (List.range z).map fun v => r ++ [v]) [[]]
theorem rowsN_snoc (sz : List Nat) (z : Nat) : rowsN (sz ++ [z]) = (rowsN sz).flatMap fun r => (List.range z).map fun v => r ++ [v] := by
  unfold rowsN
  rw [List.foldl_append]
  rfl
def rowsD (rs : List (List Nat)) : List D := rs.map fun r => .tup (natsD r)
theorem rowsD_app {xs ys : List (List Nat)} : rowsD (xs ++ ys) = rowsD xs ++ rowsD ys := by simp [rowsD]
theorem rowsD_get {ns : List (List Nat)} {i : Nat} {d : D} (h : (rowsD ns)[i]? = some d) : ∃ n, ns[i]? = some n ∧ d = .tup (natsD n) := by
  unfold rowsD at h
  rw [List.getElem?_map] at h
  obtain ⟨n, h1, rfl⟩ := Option.map_eq_some_iff.mp h
  exact ⟨n, h1, rfl⟩
theorem flat_snoc {rows : List (List Nat)} {i z : Nat} {r : List Nat} (h : rows[i]? = some r) : ((rows.take (i + 1)).flatMap fun r => (List.range z).map fun v => r ++ [v]) = ((rows.take i).flatMap fun r => (List.range z).map fun v => r ++ [v]) ++ (List.range z).map fun v => r ++ [v] := by
  rw [List.take_add_one, h, Option.toList_some, List.flatMap_append]
  simp
theorem flat_len {rows : List (List Nat)} {z : Nat} : (rows.flatMap fun r => (List.range z).map fun v => r ++ [v]).length = rows.length * z := by
  induction rows with
  | nil => simp
  | cons r rows ih => rw [List.flatMap_cons, List.length_append, ih, List.length_cons, Nat.add_mul]; simp; omega
theorem rowsN_take {sz : List Nat} {i z : Nat} (h : sz[i]? = some z) : rowsN (sz.take (i + 1)) = (rowsN (sz.take i)).flatMap fun r => (List.range z).map fun v => r ++ [v] := by
  rw [List.take_add_one, h, Option.toList_some, rowsN_snoc]
theorem fold_len : ∀ (sz : List Nat) (rows : List (List Nat)) (n : Nat), (∀ r ∈ rows, r.length = n) → ∀ r ∈ sz.foldl (fun rows z => rows.flatMap fun r => (List.range z).map fun v => r ++ [v]) rows, r.length = n + sz.length
  | [], rows, n, h, r, hr => by simpa using h r hr
  | z :: sz, rows, n, h, r, hr => by
    have q := fold_len sz _ (n + 1) (fun r hr => by
      obtain ⟨a, ha, hb⟩ := List.mem_flatMap.mp hr
      obtain ⟨v, _, rfl⟩ := List.mem_map.mp hb
      simp [h a ha]) r hr
    rw [q, List.length_cons]
    omega
theorem rowsN_len {sz r : List Nat} (h : r ∈ rowsN sz) : r.length = sz.length := by
  have q := fold_len sz [[]] 0 (by simp) r h
  omega
/-! ### tuples of numbers as keys -/
theorem keyL_nats : ∀ ns : List Nat, keyL (natsD ns) = some (ns.map fun (n : Nat) => (Sum.inl (n : Int) : Key))
  | [] => rfl
  | n :: ns => by
    show (match keyD (.int (n : Int)), keyL (natsD ns) with | some k, some ks => some (k :: ks) | _, _ => none) = _
    rw [keyL_nats ns]
    rfl
def kN (ns : List Nat) : List Key := ns.map fun (n : Nat) => Sum.inl (n : Int)
theorem kN_inj : ∀ {a b : List Nat}, kN a = kN b → a = b
  | [], [], _ => rfl
  | [], _ :: _, h => by cases h
  | _ :: _, [], h => by cases h
  | x :: a, y :: b, h => by
    have h1 : (Sum.inl (x : Int) : Key) :: kN a = Sum.inl (y : Int) :: kN b := h
    injection h1 with h2 h3
    injection h2 with h4
    rw [Int.ofNat.inj h4, kN_inj h3]
/-- a dict that gives each state of W its place -/
def plD (W : List (List Nat)) : List (List Key × D) := W.mapIdx fun i s => (kN s, .int (i : Int))
theorem plD_len {W : List (List Nat)} : (plD W).length = W.length := by simp [plD]
theorem plD_snoc {W : List (List Nat)} {s : List Nat} : plD (W ++ [s]) = plD W ++ [(kN s, .int (W.length : Int))] := by simp [plD, List.mapIdx_append]
theorem valD_pl (s : List Nat) : ∀ (W : List (List Nat)) (o : Nat), valD (W.mapIdx fun i t => ((kN t, D.int ((i + o : Nat) : Int)) : List Key × D)) (kN s) = if s ∈ W then some (.int ((W.idxOf s + o : Nat) : Int)) else none
  | [], o => by simp [valD]
  | t :: W, o => by
    rw [List.mapIdx_cons]
    by_cases h : t = s
    · subst h
      rw [valD_pos (by rfl)]
      simp
    · have h2 : ¬ kN t = kN s := fun e => h (kN_inj e)
      rw [valD_neg (by exact h2)]
      have ih := valD_pl s W (o + 1)
      have e : (fun (i : Nat) (t : List Nat) => ((kN t, D.int ((i + 1 + o : Nat) : Int)) : List Key × D)) = fun i t => (kN t, D.int ((i + (o + 1) : Nat) : Int)) := by funext i t; rw [show i + 1 + o = i + (o + 1) by omega]
      rw [e, ih]
      have h3 : ¬ s = t := fun z => h z.symm
      by_cases hm : s ∈ W
      · rw [if_pos hm, if_pos (List.mem_cons_of_mem _ hm), List.idxOf_cons, show (t == s) = false from beq_eq_false_iff_ne.mpr h]
        simp only [cond_false, Option.some.injEq, D.int.injEq]
        omega
      · rw [if_neg hm, if_neg (by simp [h3, hm])]
theorem valD_plD {W : List (List Nat)} {s : List Nat} : valD (plD W) (kN s) = if s ∈ W then some (.int (W.idxOf s : Nat)) else none := valD_pl s W 0
theorem any_plD {W : List (List Nat)} {s : List Nat} (h : s ∉ W) : ((plD W).any fun kv => decide (kv.1 = kN s)) = false := by
  rw [List.any_eq_false]
  intro kv hk
  unfold plD at hk
  obtain ⟨i, hi, rfl⟩ := List.mem_mapIdx.mp hk
  simp only [decide_eq_true_eq]
  intro e
  exact h (by rw [← kN_inj e]; exact List.getElem_mem hi)
theorem putD_plD {W : List (List Nat)} {s : List Nat} (h : s ∉ W) : putD (plD W) (kN s) (.int (W.length : Int)) = plD (W ++ [s]) := by
  unfold putD
  rw [any_plD h, plD_snoc]
  rfl
theorem flat_nodup (z : Nat) : ∀ rows : List (List Nat), rows.Nodup → (rows.flatMap fun r => (List.range z).map fun v => r ++ [v]).Nodup
  | [], _ => by simp
  | r :: rows, h => by
    rw [List.flatMap_cons, List.nodup_append]
    have hn := List.nodup_cons.mp h
    refine ⟨?_, flat_nodup z rows hn.2, ?_⟩
    · refine List.Pairwise.map _ (fun a b hab e => hab ?_) List.nodup_range
      simpa using e
    · intro a ha b hb e
      subst e
      obtain ⟨v, _, rfl⟩ := List.mem_map.mp ha
      obtain ⟨r', hr', hb'⟩ := List.mem_flatMap.mp hb
      obtain ⟨v', _, e'⟩ := List.mem_map.mp hb'
      have e2 := List.append_inj_left' e' rfl
      exact hn.1 (by rw [← e2]; exact hr')
theorem rowsN_nodup (sz : List Nat) : (rowsN sz).Nodup := by
  unfold rowsN
  have : ∀ (sz : List Nat) (rows : List (List Nat)), rows.Nodup → (sz.foldl (fun rows z => rows.flatMap fun r => (List.range z).map fun v => r ++ [v]) rows).Nodup := by
    intro sz
    induction sz with
    | nil => intro rows h; exact h
    | cons z sz ih => intro rows h; exact ih _ (flat_nodup z rows h)
  exact this sz [[]] (by simp)
theorem mulW_nat {x y : Nat} (hx : x < 2 ^ 20) (hy : y < 2 ^ 20) : CMulW (x : Int) (y : Int) := wide_mul (a := 20) (b := 20) (by simpa using hx) (by simpa using hy) (by decide) (by decide) (by decide)
end M08
set_option Elab.async false
set_option linter.all false
set_option maxRecDepth 100000
set_option maxHeartbeats 4000000
/-! M09: joins of machines. -/
namespace M08
open PySem L2 QL
open QL (D P LS SS WE)
structure JS where
  W : List (List Nat)
  nx : List Nat
  ou : List Nat
abbrev MV := List Nat → Nat → Nat × List Nat
def step1 (f : MV) (s : List Nat) (J : JS) (x : Nat) : Option JS :=
  if (f s x).2 ∈ J.W then some ⟨J.W, J.nx ++ [J.W.idxOf (f s x).2], J.ou ++ [(f s x).1]⟩
  else if J.W.length = 400 then none else some ⟨J.W ++ [(f s x).2], J.nx ++ [J.W.length], J.ou ++ [(f s x).1]⟩
def rowJ (f : MV) (s : List Nat) : List Nat → JS → Option JS
  | [], J => some J
  | x :: xs, J => match step1 f s J x with
    | none => none
    | some J => rowJ f s xs J
def runJ (f : MV) (w : Nat) : Nat → Nat → JS → Option JS
  | 0, _, J => some J
  | n + 1, t, J => if t < J.W.length then (match rowJ f (J.W.getD t []) (List.range w) J with
    | none => none
    | some J => runJ f w n (t + 1) J) else some J
def startJ (s : List Nat) : JS := ⟨[s], [], []⟩
def joinJ (f : MV) (w : Nat) (s : List Nat) : Option JS := runJ f w 401 0 (startJ s)
/-! what a row of letters does -/
structure RowR (f : MV) (s : List Nat) (xs : List Nat) (J J' : JS) : Prop where
  pre : ∃ E, J'.W = J.W ++ E
  nx : J'.nx = J.nx ++ xs.map fun x => J'.W.idxOf (f s x).2
  ou : J'.ou = J.ou ++ xs.map fun x => (f s x).1
  hit : ∀ x ∈ xs, (f s x).2 ∈ J'.W
  src : ∀ y ∈ J'.W, y ∈ J.W ∨ ∃ x ∈ xs, y = (f s x).2
  nd : J.W.Nodup → J'.W.Nodup
  len : J.W.length ≤ 400 → J'.W.length ≤ 400
theorem step1_ok {f : MV} {s : List Nat} {J J' : JS} {x : Nat} (h : step1 f s J x = some J') : RowR f s [x] J J' := by
  unfold step1 at h
  split at h
  · rename_i hm
    cases h
    exact ⟨⟨[], by simp⟩, rfl, rfl, by simpa using hm, fun y hy => .inl hy, id, id⟩
  · rename_i hm
    split at h
    · cases h
    · rename_i hl
      cases h
      refine ⟨⟨[_], rfl⟩, ?_, rfl, by simp, ?_, ?_, ?_⟩
      · simp [List.idxOf_append, hm]
      · intro y hy
        rcases List.mem_append.mp hy with hy | hy
        · exact .inl hy
        · exact .inr ⟨x, by simp, by simpa using hy⟩
      · intro hn
        rw [List.nodup_append]
        refine ⟨hn, by simp, ?_⟩
        intro a ha b hb e
        simp at hb
        subst hb; subst e
        exact hm ha
      · intro h4
        simp
        omega
theorem idxOf_pre {a : List Nat} {xs ys : List (List Nat)} (h : a ∈ xs) : (xs ++ ys).idxOf a = xs.idxOf a := by
  rw [List.idxOf_append, if_pos h]
theorem rowJ_ok {f : MV} {s : List Nat} : ∀ {xs : List Nat} {J J' : JS}, rowJ f s xs J = some J' → RowR f s xs J J'
  | [], J, J', h => by
    cases h
    exact ⟨⟨[], by simp⟩, by simp, by simp, by simp, fun y hy => .inl hy, id, id⟩
  | x :: xs, J, J', h => by
    unfold rowJ at h
    split at h
    · cases h
    · rename_i J1 h1
      have a := step1_ok h1
      have b := rowJ_ok h
      obtain ⟨E, hE⟩ := a.pre
      obtain ⟨E', hE'⟩ := b.pre
      have hx := a.hit x (by simp)
      refine ⟨⟨E ++ E', by rw [hE', hE, List.append_assoc]⟩, ?_, ?_, ?_, ?_, fun n => b.nd (a.nd n), fun n => b.len (a.len n)⟩
      · rw [b.nx, a.nx]
        simp only [List.map_cons, List.map_nil, List.append_assoc, List.singleton_append]
        rw [hE', idxOf_pre hx]
      · rw [b.ou, a.ou]
        simp
      · intro y hy
        rcases List.mem_cons.mp hy with rfl | hy
        · rw [hE']; exact List.mem_append_left _ hx
        · exact b.hit y hy
      · intro y hy
        rcases b.src y hy with h | ⟨z, hz, e⟩
        · rcases a.src y h with h | ⟨z, hz, e⟩
          · exact .inl h
          · exact .inr ⟨z, by simp at hz; simp [hz], e⟩
        · exact .inr ⟨z, by simp [hz], e⟩
theorem rowJ_snoc {f : MV} {s : List Nat} {x : Nat} : ∀ {xs : List Nat} {J : JS}, rowJ f s (xs ++ [x]) J = match rowJ f s xs J with
    | none => none
    | some J1 => step1 f s J1 x
  | [], J => by
    show (match step1 f s J x with | none => none | some J => some J) = step1 f s J x
    cases step1 f s J x <;> rfl
  | y :: ys, J => by
    show (match step1 f s J y with | none => none | some J => rowJ f s (ys ++ [x]) J) = match (match step1 f s J y with | none => none | some J => rowJ f s ys J) with | none => none | some J1 => step1 f s J1 x
    cases step1 f s J y with
    | none => rfl
    | some J1 => exact rowJ_snoc
theorem rowJ_none {f : MV} {s : List Nat} {ys : List Nat} : ∀ {xs : List Nat} {J : JS}, rowJ f s xs J = none → rowJ f s (xs ++ ys) J = none
  | [], J, h => by cases h
  | y :: xs, J, h => by
    show (match step1 f s J y with | none => none | some J => rowJ f s (xs ++ ys) J) = none
    unfold rowJ at h
    cases e : step1 f s J y with
    | none => rfl
    | some J1 =>
      rw [e] at h
      exact rowJ_none h
theorem range_take {w i : Nat} (h : i < w) : (List.range w).take (i + 1) = (List.range w).take i ++ [i] := by
  rw [List.take_add_one]
  simp [h]
/-- what stands behind t turns -/
structure JInv (f : MV) (w t : Nat) (s0 : List Nat) (J : JS) : Prop where
  nd : J.W.Nodup
  len : J.W.length ≤ 400
  t_le : t ≤ J.W.length
  pos : J.W[0]? = some s0
  hit : ∀ s ∈ J.W.take t, ∀ x, x < w → (f s x).2 ∈ J.W
  nx : J.nx = (J.W.take t).flatMap fun s => (List.range w).map fun x => J.W.idxOf (f s x).2
  ou : J.ou = (J.W.take t).flatMap fun s => (List.range w).map fun x => (f s x).1
theorem JInv.start (f : MV) (w : Nat) (s : List Nat) : JInv f w 0 s (startJ s) := ⟨by simp [startJ], by simp [startJ], by simp, rfl, by simp, rfl, rfl⟩
theorem JInv.step {f : MV} {w t : Nat} {s0 : List Nat} {J J' : JS} (h : JInv f w t s0 J) (ht : t < J.W.length) (r : rowJ f (J.W.getD t []) (List.range w) J = some J') : JInv f w (t + 1) s0 J' := by
  have a := rowJ_ok r
  obtain ⟨E, hE⟩ := a.pre
  have hg : J.W[t]? = some (J.W.getD t []) := by simp [List.getD, ht]
  generalize J.W.getD t [] = s at *
  have ht1 : J'.W.take (t + 1) = J.W.take t ++ [s] := by
    rw [hE, List.take_append_of_le_length (by omega), List.take_add_one, hg]
    rfl
  refine ⟨a.nd h.nd, a.len h.len, by rw [hE]; simp; omega, ?_, ?_, ?_, ?_⟩
  · rw [hE, List.getElem?_append_left (by omega)]
    exact h.pos
  · intro y hy x hx
    rw [ht1] at hy
    rcases List.mem_append.mp hy with hy | hy
    · rw [hE]; exact List.mem_append_left _ (h.hit y hy x hx)
    · simp at hy
      subst hy
      exact a.hit x (List.mem_range.mpr hx)
  · rw [a.nx, h.nx, ht1, List.flatMap_append]
    simp only [List.flatMap_cons, List.flatMap_nil, List.append_nil]
    congr 1
    rw [List.flatMap_def, List.flatMap_def]
    congr 1
    apply List.map_congr_left
    intro y hy
    apply List.map_congr_left
    intro x hx
    rw [hE, idxOf_pre (h.hit y hy x (List.mem_range.mp hx))]
  · rw [a.ou, h.ou, ht1, List.flatMap_append]
    simp
theorem runJ_ok {f : MV} {w : Nat} {s0 : List Nat} : ∀ (n t : Nat) {J J' : JS}, JInv f w t s0 J → 401 ≤ n + t → runJ f w n t J = some J' → JInv f w J'.W.length s0 J'
  | 0, t, J, J', h, hn, r => by
    have := h.t_le
    have := h.len
    omega
  | n + 1, t, J, J', h, hn, r => by
    unfold runJ at r
    split at r
    · rename_i ht
      split at r
      · cases r
      · rename_i J1 h1
        exact runJ_ok n (t + 1) (h.step ht h1) (by omega) r
    · rename_i ht
      cases r
      have : t = J.W.length := by have := h.t_le; omega
      subst this
      exact h
theorem joinJ_ok {f : MV} {w : Nat} {s0 : List Nat} {J : JS} (h : joinJ f w s0 = some J) : JInv f w J.W.length s0 J := runJ_ok 401 0 (JInv.start f w s0) (by omega) h
/-- what holds of all states -/
theorem rowJ_all {f : MV} {s : List Nat} {V : List Nat → Prop} {w : Nat} (hf : ∀ s x, V s → x < w → V (f s x).2) {xs : List Nat} {J J' : JS} (hx : ∀ x ∈ xs, x < w) (hs : V s) (h : ∀ y ∈ J.W, V y) (r : rowJ f s xs J = some J') : ∀ y ∈ J'.W, V y := by
  intro y hy
  rcases (rowJ_ok r).src y hy with h1 | ⟨x, h1, rfl⟩
  · exact h y h1
  · exact hf s x hs (hx x h1)
theorem getD_mem {α : Type} {xs : List α} {t : Nat} {d : α} (h : t < xs.length) : xs.getD t d ∈ xs := by
  have : xs.getD t d = xs[t] := by simp [List.getD, h]
  rw [this]; exact List.getElem_mem h
theorem runJ_all {f : MV} {w : Nat} {V : List Nat → Prop} (hf : ∀ s x, V s → x < w → V (f s x).2) : ∀ (n t : Nat) {J J' : JS}, (∀ y ∈ J.W, V y) → runJ f w n t J = some J' → ∀ y ∈ J'.W, V y
  | 0, t, J, J', h, r => by cases r; exact h
  | n + 1, t, J, J', h, r => by
    unfold runJ at r
    split at r
    · rename_i ht
      split at r
      · cases r
      · rename_i J1 h1
        exact runJ_all hf n (t + 1) (rowJ_all hf (fun x hx => List.mem_range.mp hx) (h _ (getD_mem ht)) h h1) r
    · cases r; exact h
theorem joinJ_all {f : MV} {w : Nat} {V : List Nat → Prop} (hf : ∀ s x, V s → x < w → V (f s x).2) {s : List Nat} (h : V s) {J : JS} (r : joinJ f w s = some J) : ∀ y ∈ J.W, V y :=
  runJ_all hf 401 0 (by simpa [startJ] using h) r
/-- few states: no refusal -/
theorem nodup_le {α : Type} [DecidableEq α] : ∀ {xs ys : List α}, xs.Nodup → (∀ x ∈ xs, x ∈ ys) → xs.length ≤ ys.length
  | [], _, _, _ => by simp
  | x :: xs, ys, h, hs => by
    have hx := hs x (by simp)
    have hn := List.nodup_cons.mp h
    have := nodup_le (xs := xs) (ys := ys.erase x) hn.2 (fun y hy => (List.mem_erase_of_ne (fun e => hn.1 (by rw [← e]; exact hy))).mpr (hs y (by simp [hy])))
    rw [List.length_erase_of_mem hx] at this
    have : 0 < ys.length := List.length_pos_of_mem hx
    simp
    omega
theorem rowJ_some {f : MV} {s : List Nat} {U : List (List Nat)} (hU : U.length < 400) : ∀ {xs : List Nat} {J : JS}, J.W.Nodup → (∀ y ∈ J.W, y ∈ U) → (∀ x ∈ xs, (f s x).2 ∈ U) → ∃ J', rowJ f s xs J = some J'
  | [], J, _, _, _ => ⟨J, rfl⟩
  | x :: xs, J, nd, h, hx => by
    have hl := nodup_le nd h
    have : ∃ J1, step1 f s J x = some J1 := by
      unfold step1
      split
      · exact ⟨_, rfl⟩
      · rw [if_neg (by omega)]
        exact ⟨_, rfl⟩
    obtain ⟨J1, h1⟩ := this
    have a := step1_ok h1
    obtain ⟨J2, h2⟩ := rowJ_some hU (xs := xs) (J := J1) (f := f) (s := s) (a.nd nd) (fun y hy => by
      rcases a.src y hy with q | ⟨z, hz, rfl⟩
      · exact h y q
      · exact hx z (by simp at hz; simp [hz])) fun y hy => hx y (by simp [hy])
    refine ⟨J2, ?_⟩
    unfold rowJ
    rw [h1]
    exact h2
theorem runJ_some {f : MV} {w : Nat} {U : List (List Nat)} (hU : U.length < 400) (hf : ∀ s ∈ U, ∀ x, x < w → (f s x).2 ∈ U) : ∀ (n t : Nat) {J : JS}, J.W.Nodup → (∀ y ∈ J.W, y ∈ U) → ∃ J', runJ f w n t J = some J'
  | 0, t, J, _, _ => ⟨J, rfl⟩
  | n + 1, t, J, nd, h => by
    unfold runJ
    by_cases ht : t < J.W.length
    · rw [if_pos ht]
      have hm := h _ (getD_mem (d := []) ht)
      obtain ⟨J1, h1⟩ := rowJ_some (f := f) hU (xs := List.range w) nd h (fun x hx => hf _ hm x (List.mem_range.mp hx))
      rw [h1]
      exact runJ_some hU hf n (t + 1) ((rowJ_ok h1).nd nd) (rowJ_all (V := fun y => y ∈ U) (fun s x hs hx => hf s hs x hx) (fun x hx => List.mem_range.mp hx) hm h h1)
    · rw [if_neg ht]
      exact ⟨J, rfl⟩
theorem joinJ_some {f : MV} {w : Nat} {U : List (List Nat)} (hU : U.length < 400) (hf : ∀ s ∈ U, ∀ x, x < w → (f s x).2 ∈ U) {s : List Nat} (hs : s ∈ U) : ∃ J, joinJ f w s = some J :=
  runJ_some hU hf 401 0 (by simp [startJ]) (by simpa [startJ] using hs)
/-! the machine of a join -/
def jm (w : Nat) (J : JS) : Mc := ⟨w, J.W.length, 0, J.nx, J.ou⟩
theorem flat_const_len {α : Type} (g : α → Nat → Nat) (w : Nat) : ∀ W : List α, (W.flatMap fun s => (List.range w).map (g s)).length = W.length * w
  | [] => by simp
  | s :: W => by rw [List.flatMap_cons, List.length_append, flat_const_len g w W, List.length_cons, Nat.add_mul]; simp; omega
theorem flat_const_get {α : Type} (g : α → Nat → Nat) (w : Nat) : ∀ (W : List α) (i x : Nat) (s : α), W[i]? = some s → x < w → (W.flatMap fun s => (List.range w).map (g s))[i * w + x]? = some (g s x)
  | [], i, x, s, h, _ => by simp at h
  | s :: W, 0, x, s', h, hx => by
    simp at h
    subst h
    rw [List.flatMap_cons, Nat.zero_mul, Nat.zero_add, List.getElem?_append_left (by simpa using hx)]
    simp [hx]
  | s :: W, i + 1, x, s', h, hx => by
    rw [List.flatMap_cons, List.getElem?_append_right (by simp [Nat.add_mul]; omega)]
    have e : (i + 1) * w + x - (List.map (g s) (List.range w)).length = i * w + x := by simp [Nat.add_mul]; omega
    rw [e]
    exact flat_const_get g w W i x s' (by simpa using h) hx
theorem jm_cell {f : MV} {w : Nat} {s0 : List Nat} {J : JS} (h : JInv f w J.W.length s0 J) {i x : Nat} {s : List Nat} (hs : J.W[i]? = some s) (hx : x < w) : (jm w J).out i x = (f s x).1 ∧ (jm w J).st i x = J.W.idxOf (f s x).2 ∧ (f s x).2 ∈ J.W := by
  refine ⟨?_, ?_, ?_⟩
  · unfold Mc.out jm
    rw [h.ou, List.take_length]
    have := flat_const_get (fun s x => (f s x).1) w J.W i x s hs hx
    simp [List.getD, this]
  · unfold Mc.st jm
    rw [h.nx, List.take_length]
    have := flat_const_get (fun s x => J.W.idxOf (f s x).2) w J.W i x s hs hx
    simp [List.getD, this]
  · exact h.hit s (by rw [List.take_length]; exact List.mem_of_getElem? hs) x hx
theorem jm_ok {f : MV} {w : Nat} {s0 : List Nat} {J : JS} (h : JInv f w J.W.length s0 J) (hw : 1 ≤ w) (hw2 : w ≤ 100) : (jm w J).ok := by
  have h0 := (List.getElem?_eq_some_iff.mp h.pos).1
  refine ⟨hw, ?_, ?_, ?_, h0, hw2, Nat.le_trans h.len (by decide)⟩
  · show J.nx.length = _
    rw [h.nx, List.take_length, flat_const_len (fun s x => J.W.idxOf (f s x).2) w]
    rfl
  · show J.ou.length = _
    rw [h.ou, List.take_length, flat_const_len (fun s x => (f s x).1) w]
    rfl
  · intro c hc
    have hc : c ∈ J.nx := hc
    rw [h.nx, List.take_length] at hc
    obtain ⟨s, hs, hc⟩ := List.mem_flatMap.mp hc
    obtain ⟨x, hx, rfl⟩ := List.mem_map.mp hc
    exact List.idxOf_lt_length_of_mem (h.hit s (by rw [List.take_length]; exact hs) x (List.mem_range.mp hx))
theorem jm_out {f : MV} {w B : Nat} {s0 : List Nat} {J : JS} {V : List Nat → Prop} (h : JInv f w J.W.length s0 J) (hV : ∀ y ∈ J.W, V y) (hB : ∀ s x, V s → x < w → (f s x).1 < B) : ∀ c ∈ (jm w J).ou, c < B := by
  intro c hc
  have hc : c ∈ J.ou := hc
  rw [h.ou, List.take_length] at hc
  obtain ⟨s, hs, hc⟩ := List.mem_flatMap.mp hc
  obtain ⟨x, hx, rfl⟩ := List.mem_map.mp hc
  exact hB s x (hV s hs) (List.mem_range.mp hx)
def runF (f : MV) : List Nat → List Nat → List Nat
  | _, [] => []
  | s, x :: xs => (f s x).1 :: runF f (f s x).2 xs
theorem jm_run {f : MV} {w : Nat} {s0 : List Nat} {J : JS} (h : JInv f w J.W.length s0 J) : ∀ (xs : List Nat) (i : Nat) (s : List Nat), J.W[i]? = some s → (∀ x ∈ xs, x < w) → (jm w J).run i xs = runF f s xs
  | [], i, s, _, _ => rfl
  | x :: xs, i, s, hs, hx => by
    have c := jm_cell h hs (hx x (by simp))
    show (jm w J).out i x :: (jm w J).run ((jm w J).st i x) xs = _
    rw [c.1, c.2.1, jm_run h xs (J.W.idxOf (f s x).2) (f s x).2 (by
      have hl := List.idxOf_lt_length_of_mem c.2.2
      rw [List.getElem?_eq_getElem hl, List.getElem_idxOf]) fun y hy => hx y (by simp [hy])]
    rfl
/-! the join of an outer machine with inner ones -/
def fJ (o : Mc) (inn : List Mc) (sz : List Nat) : MV := fun st x => (o.out (st.getD 0 0) (rowN inn sz st.tail x inn.length), o.st (st.getD 0 0) (rowN inn sz st.tail x inn.length) :: behN inn st.tail x inn.length)
/-- machines that fit together: over letters below w -/
structure Fits (o : Mc) (inn : List Mc) (sz : List Nat) (w : Nat) : Prop where
  ok : o.ok
  ins : ∀ m ∈ inn, m.ok ∧ m.w = w
  szl : sz.length = inn.length
  n3 : inn.length ≤ 3
  outs : ∀ i, i < inn.length → ∀ c ∈ (inn.getD i ⟨0, 0, 0, [], []⟩).ou, c < sz.getD i 0
  rows : (rowsN sz).length ≤ o.w
  w1 : 1 ≤ w
  w2 : w ≤ 24
  szs : ∀ z ∈ sz, 1 ≤ z ∧ z ≤ 6
def okSt (o : Mc) (inn : List Mc) (st : List Nat) : Prop := ∃ s0 t, st = s0 :: t ∧ s0 < o.many ∧ t.length = inn.length ∧ ∀ i, i < inn.length → t.getD i 0 < (inn.getD i ⟨0, 0, 0, [], []⟩).many
def startN (o : Mc) (inn : List Mc) : List Nat := o.s :: inn.map (·.s)
theorem Mc.out_lt {m : Mc} (h : m.ok) {s x B : Nat} (hB : ∀ c ∈ m.ou, c < B) (hs : s < m.many) (hx : x < m.w) : m.out s x < B := by
  have hc := cell_lt hs hx
  rw [← h.2.2.1] at hc
  have : m.out s x = m.ou[s * m.w + x] := by simp [Mc.out, List.getD, hc]
  rw [this]
  exact hB _ (List.getElem_mem hc)
def valsN (inn : List Mc) (st : List Nat) (x : Nat) (i : Nat) : List Nat := (List.range i).map fun j => (inn.getD j ⟨0, 0, 0, [], []⟩).out (st.getD j 0) x
theorem flat_list_get {α β : Type} (g : α → Nat → β) (w : Nat) : ∀ (W : List α) (i x : Nat) (s : α), W[i]? = some s → x < w → (W.flatMap fun s => (List.range w).map (g s))[i * w + x]? = some (g s x)
  | [], i, x, s, h, _ => by simp at h
  | s :: W, 0, x, s', h, hx => by
    simp at h
    subst h
    rw [List.flatMap_cons, Nat.zero_mul, Nat.zero_add, List.getElem?_append_left (by simpa using hx)]
    simp [hx]
  | s :: W, i + 1, x, s', h, hx => by
    rw [List.flatMap_cons, List.getElem?_append_right (by simp [Nat.add_mul]; omega)]
    have e : (i + 1) * w + x - (List.map (g s) (List.range w)).length = i * w + x := by simp [Nat.add_mul]; omega
    rw [e]
    exact flat_list_get g w W i x s' (by simpa using h) hx
theorem rows_at {o : Mc} {inn : List Mc} {sz : List Nat} {w : Nat} (F : Fits o inn sz w) {st : List Nat} {x : Nat} (hx : x < w) (hs : ∀ i, i < inn.length → st.getD i 0 < (inn.getD i ⟨0, 0, 0, [], []⟩).many) : ∀ i, i ≤ inn.length → (rowsN (sz.take i))[rowN inn sz st x i]? = some (valsN inn st x i)
  | 0, _ => by simp [rowsN, rowN, valsN]
  | i + 1, hi => by
    have ih := rows_at F hx hs i (by omega)
    have hi2 : i < sz.length := by rw [F.szl]; omega
    have hi3 : i < inn.length := hi
    have hm : inn.getD i ⟨0, 0, 0, [], []⟩ = inn[i] := by simp [List.getD, hi3]
    have hmem := F.ins inn[i] (List.getElem_mem (by omega))
    rw [rowsN_take (List.getElem?_eq_getElem hi2)]
    have ho := F.outs i (by omega)
    have hsi := hs i (by omega)
    rw [hm] at ho hsi
    have hz : sz.getD i 0 = sz[i] := by simp [List.getD, hi2]
    rw [hz] at ho
    have hlt := Mc.out_lt hmem.1 ho hsi (by rw [hmem.2]; exact hx)
    have := flat_list_get (fun (r : List Nat) v => r ++ [v]) sz[i] _ _ (inn[i].out (st.getD i 0) x) _ ih hlt
    show (_ : List (List Nat))[rowN inn sz st x i * sz.getD i 0 + (inn.getD i ⟨0, 0, 0, [], []⟩).out (st.getD i 0) x]? = _
    rw [hm, hz, this]
    simp [valsN, List.range_succ, hi3]
theorem row_idx {o : Mc} {inn : List Mc} {sz : List Nat} {w : Nat} (F : Fits o inn sz w) {st : List Nat} {x : Nat} (hx : x < w) (hs : ∀ i, i < inn.length → st.getD i 0 < (inn.getD i ⟨0, 0, 0, [], []⟩).many) :
    (rowsN sz).idxOf (valsN inn st x inn.length) = rowN inn sz st x inn.length ∧ valsN inn st x inn.length ∈ rowsN sz ∧ rowN inn sz st x inn.length < (rowsN sz).length := by
  have h := rows_at F hx hs inn.length (Nat.le_refl _)
  rw [← F.szl, List.take_length] at h
  rw [← F.szl]
  obtain ⟨hl, he⟩ := List.getElem?_eq_some_iff.mp h
  refine ⟨?_, List.mem_of_getElem? h, hl⟩
  rw [← he]
  exact (rowsN_nodup sz).idxOf_getElem _ hl
theorem rowN_small {o : Mc} {inn : List Mc} {sz : List Nat} {w : Nat} (F : Fits o inn sz w) {st : List Nat} {x : Nat} (hx : x < w) (hs : ∀ i, i < inn.length → st.getD i 0 < (inn.getD i ⟨0, 0, 0, [], []⟩).many) : ∀ i, i ≤ inn.length → rowN inn sz st x i < 7 ^ i
  | 0, _ => by simp [rowN]
  | i + 1, hi => by
    have ih := rowN_small F hx hs i (by omega)
    have hi2 : i < sz.length := by rw [F.szl]; omega
    have hi3 : i < inn.length := hi
    have hm : inn.getD i ⟨0, 0, 0, [], []⟩ = inn[i] := by simp [List.getD, hi3]
    have hmem := F.ins inn[i] (List.getElem_mem (by omega))
    have ho := F.outs i (by omega)
    have hsi := hs i (by omega)
    rw [hm] at ho hsi
    have hz : sz.getD i 0 = sz[i] := by simp [List.getD, hi2]
    have hz2 := F.szs sz[i] (List.getElem_mem hi2)
    rw [hz] at ho
    have hlt := Mc.out_lt hmem.1 ho hsi (by rw [hmem.2]; exact hx)
    show rowN inn sz st x i * sz.getD i 0 + (inn.getD i ⟨0, 0, 0, [], []⟩).out (st.getD i 0) x < 7 ^ (i + 1)
    rw [hm, hz]
    have h6 : rowN inn sz st x i * sz[i] ≤ rowN inn sz st x i * 6 := Nat.mul_le_mul_left _ hz2.2
    rw [Nat.pow_succ]
    omega
theorem okSt_start {o : Mc} {inn : List Mc} {sz : List Nat} {w : Nat} (F : Fits o inn sz w) : okSt o inn (startN o inn) := ⟨_, _, rfl, F.ok.2.2.2.2.1, by simp, fun i hi => by
  have hm : inn.getD i ⟨0, 0, 0, [], []⟩ = inn[i] := by simp [List.getD, hi]
  rw [hm]
  have : (inn.map (·.s)).getD i 0 = inn[i].s := by simp [List.getD, hi]
  rw [this]
  exact (F.ins inn[i] (List.getElem_mem hi)).1.2.2.2.2.1⟩
theorem okSt_next {o : Mc} {inn : List Mc} {sz : List Nat} {w : Nat} (F : Fits o inn sz w) (s : List Nat) (x : Nat) (h : okSt o inn s) (hx : x < w) : okSt o inn (fJ o inn sz s x).2 := by
  obtain ⟨s0, t, rfl, h0, hl, ht⟩ := h
  have hr := row_idx F hx ht
  refine ⟨_, _, rfl, Mc.st_lt F.ok h0 (Nat.lt_of_lt_of_le hr.2.2 F.rows), by simp [behN], fun i hi => ?_⟩
  have hm : inn.getD i ⟨0, 0, 0, [], []⟩ = inn[i] := by simp [List.getD, hi]
  have hmem := F.ins inn[i] (List.getElem_mem hi)
  have hti := ht i hi
  have e : (behN inn (s0 :: t).tail x inn.length).getD i 0 = inn[i].st (t.getD i 0) x := by simp [behN, List.getD, hi]
  rw [e, hm]
  rw [hm] at hti
  exact Mc.st_lt hmem.1 hti (by rw [hmem.2]; exact hx)
theorem fJ_out {o : Mc} {inn : List Mc} {sz : List Nat} {w B : Nat} (F : Fits o inn sz w) (hB : ∀ c ∈ o.ou, c < B) (s : List Nat) (x : Nat) (h : okSt o inn s) (hx : x < w) : (fJ o inn sz s x).1 < B := by
  obtain ⟨s0, t, rfl, h0, hl, ht⟩ := h
  exact Mc.out_lt F.ok hB h0 (Nat.lt_of_lt_of_le (row_idx F hx ht).2.2 F.rows)
/-- the rows that the inner machines show for a word -/
def rowsAt (inn : List Mc) (sz : List Nat) : List Nat → List Nat → List Nat
  | _, [] => []
  | t, x :: xs => rowN inn sz t x inn.length :: rowsAt inn sz (behN inn t x inn.length) xs
theorem run_rows {o : Mc} {inn : List Mc} {sz : List Nat} : ∀ (xs : List Nat) (s0 : Nat) (t : List Nat), runF (fJ o inn sz) (s0 :: t) xs = o.run s0 (rowsAt inn sz t xs)
  | [], s0, t => rfl
  | x :: xs, s0, t => by
    show (fJ o inn sz (s0 :: t) x).1 :: runF (fJ o inn sz) (fJ o inn sz (s0 :: t) x).2 xs = o.out s0 _ :: o.run (o.st s0 _) _
    rw [show (fJ o inn sz (s0 :: t) x).2 = o.st s0 (rowN inn sz t x inn.length) :: behN inn t x inn.length from rfl, run_rows xs]
    rfl
theorem rowsAt_len (inn : List Mc) (sz : List Nat) : ∀ (xs t : List Nat), (rowsAt inn sz t xs).length = xs.length
  | [], t => rfl
  | x :: xs, t => by simp [rowsAt, rowsAt_len inn sz xs]
/-- a row of the columns that the inner machines show -/
theorem rowsAt_get {o : Mc} {inn : List Mc} {sz : List Nat} {w : Nat} (F : Fits o inn sz w) : ∀ (xs t : List Nat) (p : Nat), (∀ x ∈ xs, x < w) → p < xs.length → t.length = inn.length → (∀ i, i < inn.length → t.getD i 0 < (inn.getD i ⟨0, 0, 0, [], []⟩).many) →
    (rowsAt inn sz t xs)[p]? = some ((rowsN sz).idxOf ((List.range inn.length).map fun j => ((inn.getD j ⟨0, 0, 0, [], []⟩).run (t.getD j 0) xs).getD p 0)) ∧
    ((List.range inn.length).map fun j => ((inn.getD j ⟨0, 0, 0, [], []⟩).run (t.getD j 0) xs).getD p 0) ∈ rowsN sz
  | [], t, p, _, hp, _, _ => by simp at hp
  | x :: xs, t, 0, hx, _, hl, ht => by
    have hr := row_idx F (hx x (by simp)) ht
    have e : ((List.range inn.length).map fun j => ((inn.getD j ⟨0, 0, 0, [], []⟩).run (t.getD j 0) (x :: xs)).getD 0 0) = valsN inn t x inn.length := by
      unfold valsN
      apply List.map_congr_left
      intro j _
      rfl
    rw [e, hr.1]
    exact ⟨rfl, hr.2.1⟩
  | x :: xs, t, p + 1, hx, hp, hl, ht => by
    have ih := rowsAt_get F xs (behN inn t x inn.length) p (fun y hy => hx y (by simp [hy])) (by simpa using hp) (by simp [behN]) (fun i hi => by
      have hm : inn.getD i ⟨0, 0, 0, [], []⟩ = inn[i] := by simp [List.getD, hi]
      have hmem := F.ins inn[i] (List.getElem_mem hi)
      have hti := ht i hi
      have e : (behN inn t x inn.length).getD i 0 = inn[i].st (t.getD i 0) x := by simp [behN, List.getD, hi]
      rw [e, hm]
      rw [hm] at hti
      exact Mc.st_lt hmem.1 hti (by rw [hmem.2]; exact hx x (by simp)))
    have e : ((List.range inn.length).map fun j => ((inn.getD j ⟨0, 0, 0, [], []⟩).run (t.getD j 0) (x :: xs)).getD (p + 1) 0) = ((List.range inn.length).map fun j => ((inn.getD j ⟨0, 0, 0, [], []⟩).run ((behN inn t x inn.length).getD j 0) xs).getD p 0) := by
      apply List.map_congr_left
      intro j hj
      have hj := List.mem_range.mp hj
      have e : (behN inn t x inn.length).getD j 0 = (inn.getD j ⟨0, 0, 0, [], []⟩).st (t.getD j 0) x := by simp [behN, List.getD, hj]
      rw [e]
      rfl
    rw [e]
    exact ih
/-- the rows for a word, by the runs of the machines alone -/
def wordRows (inn : List Mc) (sz : List Nat) (xs : List Nat) : List Nat := (List.range xs.length).map fun p => (rowsN sz).idxOf ((List.range inn.length).map fun j => ((inn.getD j ⟨0, 0, 0, [], []⟩).run ((inn.map (·.s)).getD j 0) xs).getD p 0)
theorem run_join {o : Mc} {inn : List Mc} {sz : List Nat} {w : Nat} (F : Fits o inn sz w) {J : JS} (h : joinJ (fJ o inn sz) w (startN o inn) = some J) {xs : List Nat} (hx : ∀ x ∈ xs, x < w) : (jm w J).run 0 xs = o.run o.s (wordRows inn sz xs) := by
  have I := joinJ_ok h
  rw [jm_run I xs 0 _ I.pos hx]
  unfold startN
  rw [run_rows]
  congr 1
  apply List.ext_getElem?
  intro p
  unfold wordRows
  by_cases hp : p < xs.length
  · have h0 := okSt_start F
    obtain ⟨s0, t, e, h0, hl, ht⟩ := h0
    unfold startN at e
    injection e with e1 e2
    subst e2
    rw [(rowsAt_get F xs _ p hx hp hl ht).1]
    simp [hp]
  · rw [List.getElem?_eq_none (by rw [rowsAt_len]; omega), List.getElem?_eq_none (by simp; omega)]
end M08
namespace M08
open PySem L2 QL
theorem rows_le {sz : List Nat} (h : ∀ z ∈ sz, 1 ≤ z) (i : Nat) : ∀ k, (rowsN (sz.take i)).length ≤ (rowsN (sz.take (i + k))).length
  | 0 => Nat.le_refl _
  | k + 1 => by
    refine Nat.le_trans (rows_le h i k) ?_
    by_cases hk : i + k < sz.length
    · rw [← Nat.add_assoc, rowsN_take (List.getElem?_eq_getElem hk), flat_len]
      exact Nat.le_mul_of_pos_right _ (h _ (List.getElem_mem hk))
    · rw [List.take_of_length_le (by omega), List.take_of_length_le (by omega)]
      exact Nat.le_refl _
theorem rows_le' {sz : List Nat} {B : Nat} (h : ∀ z ∈ sz, 1 ≤ z) (hB : (rowsN sz).length ≤ B) (i : Nat) (hi : i ≤ sz.length) : (rowsN (sz.take i)).length ≤ B := by
  have := rows_le h i (sz.length - i)
  rw [show i + (sz.length - i) = sz.length by omega, List.take_length] at this
  omega
end M08
namespace M08
open PySem L2 QL
/-! what a right machine is -/
def mD (w s : Int) (nx ou : List Int) : D := .tup [.int w, .int s, .tup (nx.map .int), .tup (ou.map .int)]
def RightP (w s : Int) (nx ou : List Int) (size : Int) : Prop := 1 ≤ w ∧ nx ≠ [] ∧ ou.length = nx.length ∧ ((nx.length : Int) / w) * w = nx.length ∧ 0 ≤ s ∧ s < (nx.length : Int) / w ∧ (∀ c ∈ nx, 0 ≤ c ∧ c < (nx.length : Int) / w) ∧ ∀ c ∈ ou, 0 ≤ c ∧ c < size
instance (w s : Int) (nx ou : List Int) (size : Int) : Decidable (RightP w s nx ou size) := by unfold RightP; infer_instance
def right (w s : Int) (nx ou : List Int) (size : Int) : Bool := decide (RightP w s nx ou size)
theorem right_no {w s : Int} {nx ou : List Int} {size : Int} (h : ¬ RightP w s nx ou size) : right w s nx ou size = false := decide_eq_false h
end M08
namespace M08
open PySem L2 QL
theorem mulW_int {x y : Int} (h0 : 0 ≤ x) (h1 : x < 1048576) (h2 : 0 ≤ y) (h3 : y < 1048576) : CMulW x y := by
  obtain ⟨a, rfl⟩ := Int.eq_ofNat_of_zero_le h0
  obtain ⟨b, rfl⟩ := Int.eq_ofNat_of_zero_le h2
  exact mulW_nat (by omega) (by omega)
end M08
namespace M08
open PySem L2 QL
open QL (D P LS SS WE)
theorem nats_of {rs : List Int} {m : Int} (h : ∀ r ∈ rs, 0 ≤ r ∧ r < m) : ∃ ns : List Nat, rs.map D.int = natsD ns ∧ ns.length = rs.length ∧ ∀ n ∈ ns, (n : Int) < m := by
  refine ⟨rs.map Int.toNat, ?_, by simp, fun n hn => ?_⟩
  · unfold natsD
    rw [List.map_map]
    apply List.map_congr_left
    intro r hr
    have := (h r hr).1
    simp
    omega
  · obtain ⟨r, hr, rfl⟩ := List.mem_map.mp hn
    have := h r hr
    omega
theorem natsD_ints (ns : List Nat) : natsD ns = (ns.map fun (n : Nat) => (n : Int)).map D.int := by simp [natsD]
theorem dOk_nats {n : Nat} {ns : List Nat} : dOk (n + 1) (.tup (natsD ns)) ↔ True := by rw [natsD_ints]; exact dOk_ints
theorem noB_nats {ns : List Nat} : noB (.tup (natsD ns)) ↔ True := by rw [natsD_ints]; exact noB_ints
theorem szs_ints : ∀ ns : List Int, D.szs (ns.map .int) = ns.length
  | [] => rfl
  | n :: ns => by
    show 1 + D.szs (ns.map .int) = _
    rw [szs_ints ns]
    simp
    omega
theorem szs_nats (ns : List Nat) : D.szs (natsD ns) = ns.length := by rw [natsD_ints, szs_ints]; simp
theorem mcD_mD (m : Mc) : mcD m = mD m.w m.s (m.nx.map fun (n : Nat) => (n : Int)) (m.ou.map fun (n : Nat) => (n : Int)) := by
  unfold mcD mD
  rw [natsD_ints, natsD_ints]
theorem dOk_mc {n : Nat} {m : Mc} : dOk (n + 2) (mcD m) ↔ True := by
  unfold mcD
  simp only [dOk_cons, dOk_int, dOk_nats, dOk_nil, and_true]
theorem noB_mc {m : Mc} : noB (mcD m) ↔ True := by
  unfold mcD
  simp only [noB_cons, noB_int, noB_nats, noB_nil, and_true]
theorem sz_mc {m : Mc} : (mcD m).sz = m.nx.length + m.ou.length + 5 := by
  unfold mcD
  simp only [D.sz, D.szs, szs_nats]
  omega
theorem right_mc {m : Mc} (h : m.ok) {B : Nat} (hB : ∀ c ∈ m.ou, c < B) : right m.w m.s (m.nx.map fun (n : Nat) => (n : Int)) (m.ou.map fun (n : Nat) => (n : Int)) B = true := by
  obtain ⟨h1, h2, h3, h4, h5, _, _⟩ := h
  have e : ((m.many * m.w : Nat) : Int) / (m.w : Int) = m.many := by
    rw [Int.natCast_mul]
    exact Int.mul_ediv_cancel _ (by omega)
  have hp : 1 * 1 ≤ m.many * m.w := Nat.mul_le_mul (by omega) h1
  unfold right
  rw [decide_eq_true_iff]
  unfold RightP
  simp only [List.length_map, h2, h3, e, List.mem_map, forall_exists_index, and_imp]
  refine ⟨by omega, ?_, True.intro, by simp, by omega, by omega, ?_, ?_⟩
  · intro z
    have : m.nx = [] := by simpa using z
    rw [this] at h2
    simp at h2
    omega
  · rintro c n hn rfl
    have := h4 n hn
    omega
  · rintro c n hn rfl
    have := hB n hn
    omega
def dueD (o : Mc) (inn : List Mc) (sz : List Nat) (w : Nat) : D := match joinJ (fJ o inn sz) w (startN o inn) with
  | some J => mcD (jm w J)
  | none => .non
theorem eqv_pair {b c : Bool} {x y : D} : D.eqv (.tup [.bl b, x]) (.tup [.bl c, y]) = (b == c && D.eqv x y) := by
  simp [D.eqv, D.py, D.pys, PyData.eqv, PyData.eqvAll]
/-! inner machines, one by one -/
structure Ins (inn : List Mc) (sz : List Nat) (w : Nat) : Prop where
  ins : ∀ m ∈ inn, m.ok ∧ m.w = w
  szl : sz.length = inn.length
  outs : ∀ i, i < inn.length → ∀ c ∈ (inn.getD i ⟨0, 0, 0, [], []⟩).ou, c < sz.getD i 0
  szs : ∀ z ∈ sz, 1 ≤ z ∧ z ≤ 6
theorem Ins.nil (w : Nat) : Ins [] [] w := ⟨by simp, rfl, by simp, by simp⟩
theorem Ins.add {inn : List Mc} {sz : List Nat} {w z : Nat} {m : Mc} (h : Ins inn sz w) (hm : m.ok) (hw : m.w = w) (ho : ∀ c ∈ m.ou, c < z) (h1 : 1 ≤ z) (h6 : z ≤ 6) : Ins (inn ++ [m]) (sz ++ [z]) w := by
  refine ⟨?_, by simp [h.szl], ?_, ?_⟩
  · intro x hx
    rcases List.mem_append.mp hx with hx | hx
    · exact h.ins x hx
    · simp at hx; subst hx; exact ⟨hm, hw⟩
  · intro i hi c hc
    have hsl := h.szl
    by_cases hl : i < inn.length
    · have e1 : (inn ++ [m]).getD i ⟨0, 0, 0, [], []⟩ = inn.getD i ⟨0, 0, 0, [], []⟩ := by simp [List.getD, List.getElem?_append_left hl]
      have e2 : (sz ++ [z]).getD i 0 = sz.getD i 0 := by simp [List.getD, List.getElem?_append_left (show i < sz.length by omega)]
      rw [e1] at hc
      rw [e2]
      exact h.outs i hl c hc
    · have hi2 : i = inn.length := by simp at hi; omega
      subst hi2
      have e1 : (inn ++ [m]).getD inn.length ⟨0, 0, 0, [], []⟩ = m := by simp [List.getD]
      have e2 : (sz ++ [z]).getD inn.length 0 = z := by rw [← hsl]; simp [List.getD]
      rw [e1] at hc
      rw [e2]
      exact ho c hc
  · intro x hx
    rcases List.mem_append.mp hx with hx | hx
    · exact h.szs x hx
    · simp at hx; subst hx; exact ⟨h1, h6⟩
theorem Ins.fits {inn : List Mc} {sz : List Nat} {w : Nat} {o : Mc} (h : Ins inn sz w) (ho : o.ok) (h3 : inn.length ≤ 3) (hr : (rowsN sz).length ≤ o.w) (w1 : 1 ≤ w) (w2 : w ≤ 24) : Fits o inn sz w := ⟨ho, h.ins, h.szl, h3, h.outs, hr, w1, w2, h.szs⟩
theorem rowsN_one (sz : List Nat) (z : Nat) : (rowsN (sz ++ [z])).length = (rowsN sz).length * z := by rw [rowsN_snoc, flat_len]
/-! counters -/
def cntN (many letter s p : Nat) : Nat := if letter = 2 ∨ letter = p then (s + 1) % many else s
def cnt (many letter : Nat) : Mc := ⟨2, many, 0, (List.range many).flatMap fun s => (List.range 2).map (cntN many letter s), (List.range many).flatMap fun s => (List.range 2).map fun _ => s % 2⟩
theorem cnt_ok {many letter : Nat} (h1 : 1 ≤ many) (h2 : many ≤ 1000) : (cnt many letter).ok := by
  refine ⟨by show 1 ≤ 2; decide, ?_, ?_, ?_, h1, by show 2 ≤ 100; decide, h2⟩
  · show (List.flatMap _ _).length = _
    rw [flat_const_len (cntN many letter) 2]
    simp [cnt]
  · show (List.flatMap _ _).length = _
    rw [flat_const_len (fun s _ => s % 2) 2]
    simp [cnt]
  · intro c hc
    obtain ⟨s, hs, hc⟩ := List.mem_flatMap.mp hc
    obtain ⟨p, hp, rfl⟩ := List.mem_map.mp hc
    have hs := List.mem_range.mp hs
    show cntN many letter s p < many
    unfold cntN
    split
    · exact Nat.mod_lt _ (by omega)
    · exact hs
theorem cnt_out {many letter : Nat} : ∀ c ∈ (cnt many letter).ou, c < 2 := by
  intro c hc
  obtain ⟨s, hs, hc⟩ := List.mem_flatMap.mp hc
  obtain ⟨p, hp, rfl⟩ := List.mem_map.mp hc
  exact Nat.mod_lt _ (by decide)
/-- a machine joined with itself: its two places are always one -/
theorem twin_some {o m : Mc} (F : Fits o [m, m] [2, 2] 2) (hm : o.many * m.many < 400) : ∃ J, joinJ (fJ o [m, m] [2, 2]) 2 (startN o [m, m]) = some J := by
  have hmm := F.ins m (by simp)
  refine joinJ_some (U := (List.range o.many).flatMap fun a => (List.range m.many).map fun k => [a, k, k]) ?_ ?_ ?_
  · have : ∀ W : List Nat, (W.flatMap fun a => (List.range m.many).map fun k => [a, k, k]).length = W.length * m.many := by
      intro W
      induction W with
      | nil => simp
      | cons a W ih => rw [List.flatMap_cons, List.length_append, ih, List.length_cons, Nat.add_mul]; simp; omega
    rw [this]
    simpa using hm
  · intro s hs x hx
    obtain ⟨a, ha, hs⟩ := List.mem_flatMap.mp hs
    obtain ⟨k, hk, rfl⟩ := List.mem_map.mp hs
    have ha := List.mem_range.mp ha
    have hk := List.mem_range.mp hk
    have h := okSt_next F [a, k, k] x ⟨a, [k, k], rfl, ha, rfl, fun i hi => by
      match i, hi with
      | 0, _ => exact hk
      | 1, _ => exact hk⟩ hx
    obtain ⟨s0, t, e, h0, hl, ht⟩ := h
    have e2 : (fJ o [m, m] [2, 2] [a, k, k] x).2 = [o.st a (rowN [m, m] [2, 2] [k, k] x 2), m.st k x, m.st k x] := rfl
    rw [e2] at e ⊢
    injection e with e3 e4
    rw [List.mem_flatMap]
    exact ⟨_, List.mem_range.mpr (by rw [e3]; exact h0), List.mem_map.mpr ⟨m.st k x, List.mem_range.mpr (Mc.st_lt hmm.1 hk (by rw [hmm.2]; exact hx)), rfl⟩⟩
  · rw [List.mem_flatMap]
    exact ⟨o.s, List.mem_range.mpr F.ok.2.2.2.2.1, List.mem_map.mpr ⟨m.s, List.mem_range.mpr hmm.1.2.2.2.2.1, rfl⟩⟩
end M08
namespace M08
open PySem L2 QL
open QL (D P LS SS WE)
theorem cutD_map {α β : Type} (f : α → β) (xs : List α) (lo hi : Option Int) : cutD (xs.map f) lo hi = (cutD xs lo hi).map f := by
  unfold cutD
  simp
theorem cutD_len {α : Type} (xs : List α) (lo hi : Option Int) : (cutD xs lo hi).length ≤ xs.length := by
  unfold cutD
  simp
  omega
/-- a thing that looks like a machine -/
def Ms (t : D) : Prop := ∃ (w s : Int) (nx ou : List Int), t = mD w s nx ou ∧ nx.length ≤ 10000 ∧ ou.length ≤ 10000 ∧ w ≤ 10000
theorem Ms.mk {w s : Int} {nx ou : List Int} (h1 : nx.length ≤ 10000) (h2 : ou.length ≤ 10000) (h3 : w ≤ 10000) : Ms (.tup [.int w, .int s, .tup (nx.map .int), .tup (ou.map .int)]) := ⟨w, s, nx, ou, rfl, h1, h2, h3⟩
end M08
namespace M08
theorem flat_range_succ (g : Nat → Nat → Nat) (s : Nat) : ((List.range (s + 1)).flatMap fun s => (List.range 2).map (g s)) = ((List.range s).flatMap fun s => (List.range 2).map (g s)) ++ (List.range 2).map (g s) := by
  have e : List.range (s + 1) = List.range s ++ [s] := List.range_succ
  rw [e, List.flatMap_append]
  simp only [List.flatMap_cons, List.flatMap_nil, List.append_nil]
end M08
set_option Elab.async false
set_option linter.all false
set_option maxRecDepth 100000
set_option maxHeartbeats 4000000
namespace W08
open PySem PySem.Spec PyProof.Rows L2 QL M08
open QL (D P LS SS WE)
local macro_rules | `(tactic| walk_at "q") => `(tactic| simp only [iOr, oDGet, oDIn, dLook, dkOf, dtOf, wNewK, wNewT, gSubD, kSubD1, kSubD2, wGet, kGet1, kGet2, kGet3, wDs, kDs1, kDs2, mkK, mkT, dPut, dLen, bLenDc, keyD, keyT, oInD, mIndex, kLess, Int.reduceEq, decide_false, Bool.not_false, Bool.not_true, List.reverse_cons, List.reverse_nil, kRaise, wRaise, wTry, dSu, kDel, wXf, kXf, wIsX, kIsX, noXD, wCall0, kCall0, oMulT, oMulS, oCatS, oSlS, bLenS, kOp2, kOp1, kUn, kB, kTru, wTru, truD, kNot, kAnd, kOr, kAndV, kOrV, kNotV, kIfE, kCh1, kCh2, kCh3, kC1, kC2, kCB, kDrop, kIf, kG, kAsg, kAug1, kAug2, kPart, kSl1, kSl2, kSl3, kTupD, kLstD, kIce, wIce, kBM0, kBM1, kBM2, kSub1, kSub2, kLst, kTp, kRg1, kRg2, kRg3, kSt, iSt, kTurn, kFor, kWh, kEl, kTs, kLcT, kLc, kCall, kMs, kIt, kEnd, kEx, callE, wSeq, wAsg, gN, wC, wVar, wOp, wUn, wB, isB, wNot, wAnd, wOr, wAndV, wOrV, wNotV, wIfE, wChain, wNil, wCons, wCB, wNext, wBreak, wCont, wDrop, wRet, wRetN, wIf, gE, gC, gT, wAug, oII, oI0, oB0, oU, oIs, isNon,
  bInt1, bInt2, bLen, bTup, bIsi, tyOf, wFor, iRg1, iRg2, iRg3, iLst, iTp, wCall, wTup, wLst, asDs, wBM, wBM0, seqOf, lstOf, lisOf, freshL, snap, oEq, oIx, oIn, oCat, oCatT, wSl, wPart, wNoPart, oSlL, oSlT, mAppend, mPop, mPopAt, mExtend, mRev, gSubL, wLc, wYes, bSum, bAll, bAny, bMax, bMin, bList,
  startD, List.map_cons, List.map_nil, List.length_cons, List.length_nil, List.replicate, List.cons_append, List.nil_append, List.set_cons_zero, List.set_cons_succ, List.getElem?_cons_zero, List.getElem?_cons_succ, Nat.reduceAdd, Nat.reduceSub, Option.map_some, retN, CMul, CDiv, callP, callB, locsOf, relab, pick, wback, List.nodup_nil, List.getD_cons_zero,
  Int.reducePow, Int.reduceNeg, Int.reduceLT, Int.reduceLE, and_self, or_true, true_or, true_and, and_true, decide_eq_true_eq, reduceIte, List.take_length, List.take_zero, List.take_succ_cons, Int.zero_add, List.length_map, Int.reduceToNat, Nat.lt_irrefl, Bool.not_true, Bool.not_false, Bool.true_eq_false, dOk_cons, dOk_nil, atI_cons1, atI_cons0, seqIx0, ixN0, pos_len, ne_len, nodup1, Option.some.injEq, exists_eq_left', Option.isSome_some, List.eraseIdx_cons_zero, Int.ofNat_zero, Int.natCast_zero, Int.lt_irrefl, if_true, eq_self, wipeD, rangeD_len, List.length_append, D.eqv_int, dOk_int, dOk_non, dOk_ints, Bool.false_eq_true, Nat.reduceLeDiff, if_false, decide_true, Bool.not_eq_true', decide_eq_false_iff_not, List.take_nil])
def inB (lo hi a : Int) : Bool := decide (lo ≤ a) && decide (a ≤ hi)
def inC (hi a : Int) : Bool := decide (0 ≤ a) && decide (a < hi)

def top (i : Nat) : Stmt := PySem.Challenge.pw_columnwright_k08_machines_joined.main.body.getD i (.Pass ⟨0, 0, 0, 0⟩)
abbrev s_run_machine : Stmt := top 10
abbrev N_run_machine : List Str := ["machine", "letters", "width", "state", "nexts", "outs", "shown", "letter", "place"]
theorem sc_run_machine : FnScope N_run_machine ["machine", "letters"] (defScope s_run_machine) := ⟨rfl, rfl, rfl, by decide +kernel, rfl, by decide +kernel, by decide +kernel⟩
abbrev s_law_mixed : Stmt := top 14
abbrev N_law_mixed : List Str := ["number", "place", "told", "seed", "turn"]
theorem sc_law_mixed : FnScope N_law_mixed ["number", "place"] (defScope s_law_mixed) := ⟨rfl, rfl, rfl, by decide +kernel, rfl, by decide +kernel, by decide +kernel⟩
abbrev s_law_purse : Stmt := top 15
abbrev N_law_purse : List Str := ["script", "purse", "later", "place", "size"]
theorem sc_law_purse : FnScope N_law_purse ["script"] (defScope s_law_purse) := ⟨rfl, rfl, rfl, by decide +kernel, rfl, by decide +kernel, by decide +kernel⟩
abbrev s_law_take : Stmt := top 16
abbrev N_law_take : List Str := ["purse", "many", "told"]
theorem sc_law_take : FnScope N_law_take ["purse", "many"] (defScope s_law_take) := ⟨rfl, rfl, rfl, by decide +kernel, rfl, by decide +kernel, by decide +kernel⟩
abbrev s_law_row : Stmt := top 17
abbrev N_law_row : List Str := ["purse", "long", "many", "place"]
theorem sc_law_row : FnScope N_law_row ["purse", "long", "many"] (defScope s_law_row) := ⟨rfl, rfl, rfl, by decide +kernel, rfl, by decide +kernel, by decide +kernel⟩
abbrev s_law_truth : Stmt := top 19
abbrev N_law_truth : List Str := ["thing", "waiting", "part"]
theorem sc_law_truth : FnScope N_law_truth ["thing"] (defScope s_law_truth) := ⟨rfl, rfl, rfl, by decide +kernel, rfl, by decide +kernel, by decide +kernel⟩
abbrev s_law_machine : Stmt := top 20
abbrev N_law_machine : List Str := ["purse", "width", "many", "size", "start"]
theorem sc_law_machine : FnScope N_law_machine ["purse", "width", "many", "size"] (defScope s_law_machine) := ⟨rfl, rfl, rfl, by decide +kernel, rfl, by decide +kernel, by decide +kernel⟩
abbrev s_law_shown : Stmt := top 21
abbrev N_law_shown : List Str := ["machine", "letters", "width", "state", "nexts", "outs", "told", "letter"]
theorem sc_law_shown : FnScope N_law_shown ["machine", "letters"] (defScope s_law_shown) := ⟨rfl, rfl, rfl, by decide +kernel, rfl, by decide +kernel, by decide +kernel⟩
abbrev s_is_number : Stmt := top 2
abbrev N_is_number : List Str := ["thing"]
theorem sc_is_number : FnScope N_is_number ["thing"] (defScope s_is_number) := ⟨rfl, rfl, rfl, by decide +kernel, rfl, by decide +kernel, by decide +kernel⟩
abbrev s_is_within : Stmt := top 3
abbrev N_is_within : List Str := ["thing", "low", "high"]
theorem sc_is_within : FnScope N_is_within ["thing", "low", "high"] (defScope s_is_within) := ⟨rfl, rfl, rfl, by decide +kernel, rfl, by decide +kernel, by decide +kernel⟩
abbrev s_are_within : Stmt := top 4
abbrev N_are_within : List Str := ["things", "low", "high", "thing"]
theorem sc_are_within : FnScope N_are_within ["things", "low", "high"] (defScope s_are_within) := ⟨rfl, rfl, rfl, by decide +kernel, rfl, by decide +kernel, by decide +kernel⟩
abbrev s_is_machine : Stmt := top 9
abbrev N_is_machine : List Str := ["machine", "size", "width", "start", "nexts", "outs", "many"]
theorem sc_is_machine : FnScope N_is_machine ["machine", "size"] (defScope s_is_machine) := ⟨rfl, rfl, rfl, by decide +kernel, rfl, by decide +kernel, by decide +kernel⟩
abbrev s_law_right : Stmt := top 22
abbrev N_law_right : List Str := ["machine", "size", "width", "start", "nexts", "outs", "many", "cell"]
theorem sc_law_right : FnScope N_law_right ["machine", "size"] (defScope s_law_right) := ⟨rfl, rfl, rfl, by decide +kernel, rfl, by decide +kernel, by decide +kernel⟩
abbrev s_law_changed : Stmt := top 23
abbrev N_law_changed : List Str := ["purse", "machine", "size", "width", "start", "nexts", "outs", "many", "at", "told", "cell", "rest", "letter"]
theorem sc_law_changed : FnScope N_law_changed ["purse", "machine", "size"] (defScope s_law_changed) := ⟨rfl, rfl, rfl, by decide +kernel, rfl, by decide +kernel, by decide +kernel⟩
abbrev s_law_judged : Stmt := top 24
abbrev N_law_judged : List Str := ["purse", "machine", "size", "most", "told", "other"]
theorem sc_law_judged : FnScope N_law_judged ["purse", "machine", "size"] (defScope s_law_judged) := ⟨rfl, rfl, rfl, by decide +kernel, rfl, by decide +kernel, by decide +kernel⟩
abbrev s_law_rows : Stmt := top 18
abbrev N_law_rows : List Str := ["sizes", "rows", "size", "longer", "row", "value"]
theorem sc_law_rows : FnScope N_law_rows ["sizes"] (defScope s_law_rows) := ⟨rfl, rfl, rfl, by decide +kernel, rfl, by decide +kernel, by decide +kernel⟩
abbrev s_law_numbers : Stmt := top 25
abbrev N_law_numbers : List Str := ["sizes", "told", "row"]
theorem sc_law_numbers : FnScope N_law_numbers ["sizes"] (defScope s_law_numbers) := ⟨rfl, rfl, rfl, by decide +kernel, rfl, by decide +kernel, by decide +kernel⟩
abbrev s_law_behind : Stmt := top 26
abbrev N_law_behind : List Str := ["outer", "inners", "numbers", "state", "letter", "values", "behind", "place", "width", "start", "nexts", "outs", "cell"]
theorem sc_law_behind : FnScope N_law_behind ["outer", "inners", "numbers", "state", "letter"] (defScope s_law_behind) := ⟨rfl, rfl, rfl, by decide +kernel, rfl, by decide +kernel, by decide +kernel⟩
abbrev s_law_join : Stmt := top 27
abbrev N_law_join : List Str := ["outer", "inners", "sizes", "width", "numbers", "start", "inner", "known", "waiting", "nexts", "outs", "turn", "letter", "value", "behind"]
theorem sc_law_join : FnScope N_law_join ["outer", "inners", "sizes", "width"] (defScope s_law_join) := ⟨rfl, rfl, rfl, by decide +kernel, rfl, by decide +kernel, by decide +kernel⟩
abbrev s_law_words : Stmt := top 28
abbrev N_law_words : List Str := ["outer", "inners", "sizes", "word", "numbers", "columns", "inner", "rows", "place", "column"]
theorem sc_law_words : FnScope N_law_words ["outer", "inners", "sizes", "word"] (defScope s_law_words) := ⟨rfl, rfl, rfl, by decide +kernel, rfl, by decide +kernel, by decide +kernel⟩
abbrev s_moved : Stmt := top 11
abbrev N_moved : List Str := ["outer", "inners", "sizes", "state", "letter", "row", "behind", "place", "inner", "cell"]
theorem sc_moved : FnScope N_moved ["outer", "inners", "sizes", "state", "letter"] (defScope s_moved) := ⟨rfl, rfl, rfl, by decide +kernel, rfl, by decide +kernel, by decide +kernel⟩
abbrev s_joined : Stmt := top 12
abbrev N_joined : List Str := ["outer", "inners", "sizes", "width", "start", "inner", "numbers", "waiting", "nexts", "outs", "turn", "letter", "shown", "behind"]
theorem sc_joined : FnScope N_joined ["outer", "inners", "sizes", "width"] (defScope s_joined) := ⟨rfl, rfl, rfl, by decide +kernel, rfl, by decide +kernel, by decide +kernel⟩
abbrev s_law_asked : Stmt := top 29
abbrev N_law_asked : List Str := ["outer", "inners", "sizes", "width", "error"]
theorem sc_law_asked : FnScope N_law_asked ["outer", "inners", "sizes", "width"] (defScope s_law_asked) := ⟨rfl, rfl, rfl, by decide +kernel, rfl, by decide +kernel, by decide +kernel⟩
abbrev s_law_holds : Stmt := top 30
abbrev N_law_holds : List Str := ["outer", "inners", "sizes", "width", "due", "word", "told"]
theorem sc_law_holds : FnScope N_law_holds ["outer", "inners", "sizes", "width", "due", "word"] (defScope s_law_holds) := ⟨rfl, rfl, rfl, by decide +kernel, rfl, by decide +kernel, by decide +kernel⟩
abbrev s_law_case : Stmt := top 31
abbrev N_law_case : List Str := ["purse", "width", "most", "inners", "sizes", "rows", "place", "size"]
theorem sc_law_case : FnScope N_law_case ["purse", "width", "most"] (defScope s_law_case) := ⟨rfl, rfl, rfl, by decide +kernel, rfl, by decide +kernel, by decide +kernel⟩
abbrev s_law_counter : Stmt := top 32
abbrev N_law_counter : List Str := ["many", "letter", "nexts", "outs", "state", "place"]
theorem sc_law_counter : FnScope N_law_counter ["many", "letter"] (defScope s_law_counter) := ⟨rfl, rfl, rfl, by decide +kernel, rfl, by decide +kernel, by decide +kernel⟩
abbrev s_law_dear : Stmt := top 33
abbrev N_law_dear : List Str := ["purse", "pick", "outer", "many", "nexts", "state", "first", "some"]
theorem sc_law_dear : FnScope N_law_dear ["purse"] (defScope s_law_dear) := ⟨rfl, rfl, rfl, by decide +kernel, rfl, by decide +kernel, by decide +kernel⟩
abbrev s_law_dear_holds : Stmt := top 34
abbrev N_law_dear_holds : List Str := ["purse", "outer", "inners", "width", "due", "twin"]
theorem sc_law_dear_holds : FnScope N_law_dear_holds ["purse"] (defScope s_law_dear_holds) := ⟨rfl, rfl, rfl, by decide +kernel, rfl, by decide +kernel, by decide +kernel⟩
abbrev s_law : Stmt := top 35
abbrev N_law : List Str := ["script", "purse", "width", "size", "machine", "word", "told", "outer", "inners", "sizes", "due", "further", "deep", "wide", "within"]
theorem sc_law : FnScope N_law ["script"] (defScope s_law) := ⟨rfl, rfl, rfl, by decide +kernel, rfl, by decide +kernel, by decide +kernel⟩
structure Bt (mg : Str → Option Value) : Prop where
  all : mg "all" = none
  bool : mg "bool" = none
  int : mg "int" = none
  isinstance : mg "isinstance" = none
  len : mg "len" = none
  range : mg "range" = none
  tuple : mg "tuple" = none
structure Mg (K : PySem.W.Frag) (mg : Str → Option Value) : Prop where
  MOST_JOINED : ∃ u, mg "MOST_JOINED" = some u ∧ RelV (.int 400) u
structure Rs (P : Program) (w : World) (K : PySem.W.Frag) (mg : Str → Option Value) (base : Heap) : Prop where
  TooMany : MkQ P w K mg base 1 "TooMany" ["limit"]
def tab_TooMany (y : Str) : Option Bool := ([("TooMany", true)] : List (Str × Bool)).lookup y
structure Ys (K : PySem.W.Frag) (mg : Str → Option Value) : Prop where
  cm_TooMany : mg "TooMany" = some (.ref (clsA K "TooMany"))
  ex_TooMany : ∀ y b, tab_TooMany y = some b → PySem.W.exmOne K (.ref (clsA K y)) (.ref (clsA K "TooMany")) = some b
  xf_limit : ∀ y ∈ (["TooMany"] : List Str), XfC K (clsA K y) ∧ PySem.W.findIn K (.ref (clsA K y)) "limit" = some none

def fs_run_machine : FS := fun vs l Q _ => ∃ (m : Mc) (ws : List Nat), vs = [.d (mcD m), .d (.tup (natsD ws))] ∧ l = [] ∧ m.ok ∧ (∀ x ∈ ws, x < m.w) ∧ ws.length ≤ 1000 ∧ Q (.d (.tup (natsD (m.run m.s ws)))) []

def fs_law_mixed : FS := fun vs l Q _ => ∃ a b : Int, vs = [.d (.int a), .d (.int b)] ∧ l = [] ∧ ∀ r : Int, 0 ≤ r → Q (.d (.int r)) []

def fs_law_purse : FS := fun vs l Q _ => ∃ ns : List Int, vs = [.d (.scr (ns.map .int))] ∧ l = [] ∧ ns.length ≤ 63 ∧ ∀ ns' : List Int, ns'.length ≤ 1000 → (∀ n ∈ ns', 0 ≤ n) → Q (.loc 0) [.lst (ns'.map .int)]

def Pur (ns : List Int) : Prop := ns.length ≤ 1000 ∧ ∀ n ∈ ns, 0 ≤ n
def fs_law_take : FS := fun vs l Q _ => ∃ (ns : List Int) (m : Int), vs = [.loc 0, .d (.int m)] ∧ l = [.lst (ns.map .int)] ∧ Pur ns ∧ 1 ≤ m ∧ m < 1073741824 ∧
  ∀ (r : Int) (ns' : List Int), 0 ≤ r → r < m → Pur ns' → Q (.d (.int r)) [.lst (ns'.map .int)]

def fs_law_row : FS := fun vs l Q _ => ∃ (ns : List Int) (k : Nat) (m : Int), vs = [.loc 0, .d (.int k), .d (.int m)] ∧ l = [.lst (ns.map .int)] ∧ Pur ns ∧ k ≤ 1000 ∧ 1 ≤ m ∧ m < 1073741824 ∧
  ∀ (rs ns' : List Int), rs.length = k → (∀ r ∈ rs, 0 ≤ r ∧ r < m) → Pur ns' → Q (.d (.tup (rs.map .int))) [.lst (ns'.map .int)]

def fs_law_truth : FS := fun vs l Q _ => ∃ d : D, vs = [.d d] ∧ l = [] ∧ noB d ∧ d.sz ≤ 100000 ∧ Q (.d (.bl false)) []

def fs_law_machine : FS := fun vs l Q _ => ∃ (ns : List Int) (w many size : Nat), vs = [.loc 0, .d (.int w), .d (.int many), .d (.int size)] ∧ l = [.lst (ns.map .int)] ∧ Pur ns ∧ 1 ≤ w ∧ w ≤ 100 ∧ 1 ≤ many ∧ many ≤ 10 ∧ 1 ≤ size ∧ size ≤ 100 ∧
  ∀ (m : Mc) (ns' : List Int), m.ok → m.w = w → m.many = many → (∀ c ∈ m.ou, c < size) → Pur ns' → Q (.d (mcD m)) [.lst (ns'.map .int)]

def fs_law_shown : FS := fun vs l Q _ => ∃ (m : Mc) (ws : List Nat), (vs = [.d (mcD m), .d (.tup (natsD ws))] ∨ vs = [.d (mcD m), .d (.lst (natsD ws))]) ∧ l = [] ∧ m.ok ∧ (∀ x ∈ ws, x < m.w) ∧ ws.length ≤ 1000 ∧ Q (.d (.tup (natsD (m.run m.s ws)))) []

def fs_is_number : FS := fun vs l Q _ => ∃ a : Int, vs = [.d (.int a)] ∧ l = [] ∧ Q (.d (.bl true)) []

def fs_is_within : FS := fun vs l Q _ => ∃ a lo hi : Int, vs = [.d (.int a), .d (.int lo), .d (.int hi)] ∧ l = [] ∧ Q (.d (.bl (inB lo hi a))) []

def fs_are_within : FS := fun vs l Q _ => ∃ (xs : List Int) (lo hi : Int), vs = [.d (.tup (xs.map .int)), .d (.int lo), .d (.int hi)] ∧ l = [] ∧ xs.length ≤ 10000 ∧ Q (.d (.bl (xs.all (inB lo hi)))) []

def fs_is_machine : FS := fun vs l Q _ => ∃ (w s : Int) (nx ou : List Int) (size : Int), vs = [.d (mD w s nx ou), .d (.int size)] ∧ l = [] ∧ nx.length ≤ 10000 ∧ ou.length ≤ 10000 ∧ Q (.d (.bl (right w s nx ou size))) []

def fs_law_right : FS := fun vs l Q _ => ∃ (w s : Int) (nx ou : List Int) (size : Int), vs = [.d (mD w s nx ou), .d (.int size)] ∧ l = [] ∧ nx.length ≤ 10000 ∧ ou.length ≤ 10000 ∧ w ≤ 10000 ∧ Q (.d (.bl (right w s nx ou size))) []

def fs_law_changed : FS := fun vs l Q _ => ∃ (ns : List Int) (w s : Int) (nx ou : List Int) (size : Int), vs = [.loc 0, .d (mD w s nx ou), .d (.int size)] ∧ l = [.lst (ns.map .int)] ∧ Pur ns ∧ 1 ≤ w ∧ w ≤ 100 ∧ 1 ≤ nx.length ∧ nx.length ≤ 1000 ∧ ou.length ≤ 1000 ∧
  ∀ (ts : List QL.D) (ns' : List Int), (∀ t ∈ ts, Ms t) → Pur ns' → Q (.d (.lst ts)) [.lst (ns'.map .int)]

def fs_law_judged : FS := fun vs l Q _ => ∃ (ns : List Int) (w s : Int) (nx ou : List Int) (size : Nat), vs = [.loc 0, .d (mD w s nx ou), .d (.int size)] ∧ l = [.lst (ns.map .int)] ∧ Pur ns ∧ 1 ≤ w ∧ w ≤ 100 ∧ 1 ≤ nx.length ∧ nx.length ≤ 1000 ∧ ou.length ≤ 1000 ∧ size ≤ 100 ∧
  ∀ (ns' : List Int), Pur ns' → Q (.d (.bl true)) [.lst (ns'.map .int)]

def fs_law_rows : FS := fun vs l Q _ => ∃ sz : List Nat, vs = [.d (.tup (natsD sz))] ∧ l = [] ∧ sz.length ≤ 10 ∧ (∀ z ∈ sz, z ≤ 100) ∧ (∀ i, i ≤ sz.length → (rowsN (sz.take i)).length ≤ 100) ∧ Q (.d (.lst (rowsD (rowsN sz)))) []

def fs_law_numbers : FS := fun vs l Q _ => ∃ sz : List Nat, vs = [.d (.tup (natsD sz))] ∧ l = [] ∧ sz.length ≤ 10 ∧ (∀ z ∈ sz, z ≤ 100) ∧ (∀ i, i ≤ sz.length → (rowsN (sz.take i)).length ≤ 100) ∧ Q (.loc 0) [.dt (plD (rowsN sz))]

def fs_law_behind : FS := fun vs l Q _ => ∃ (o : Mc) (inn : List Mc) (sz : List Nat) (w s0 : Nat) (st : List Nat) (x : Nat), vs = [.d (mcD o), .d (.tup (inn.map mcD)), .loc 0, .d (.tup (natsD (s0 :: st))), .d (.int x)] ∧ l = [.dt (plD (rowsN sz))] ∧ Fits o inn sz w ∧ s0 < o.many ∧
  st.length = inn.length ∧ (∀ i, i < inn.length → st.getD i 0 < (inn.getD i ⟨0, 0, 0, [], []⟩).many) ∧ x < w ∧
  Q (.d (.tup [.int (fJ o inn sz (s0 :: st) x).1, .tup (natsD (fJ o inn sz (s0 :: st) x).2)])) [.dt (plD (rowsN sz))]

def fs_law_join : FS := fun vs l Q _ => ∃ (o : Mc) (inn : List Mc) (sz : List Nat) (w : Nat), vs = [.d (mcD o), .d (.tup (inn.map mcD)), .d (.tup (natsD sz)), .d (.int (w : Int))] ∧ l = [] ∧ Fits o inn sz w ∧
  Q (.d (dueD o inn sz w)) []

def fs_law_words : FS := fun vs l Q _ => ∃ (o : Mc) (inn : List Mc) (sz : List Nat) (w : Nat) (ws : List Nat), vs = [.d (mcD o), .d (.tup (inn.map mcD)), .d (.tup (natsD sz)), .d (.tup (natsD ws))] ∧ l = [] ∧ Fits o inn sz w ∧ (∀ x ∈ ws, x < w) ∧ ws.length ≤ 1000 ∧ Q (.d (.tup (natsD (o.run o.s (wordRows inn sz ws))))) []

def fs_moved : FS := fun vs l Q _ => ∃ (o : Mc) (inn : List Mc) (sz : List Nat) (s0 : Nat) (st : List Nat) (x : Nat), vs = [.d (mcD o), .d (.tup (inn.map mcD)), .d (.tup (natsD sz)), .d (.tup (natsD (s0 :: st))), .d (.int x)] ∧ l = [] ∧ o.ok ∧ s0 < o.many ∧
  (∀ m ∈ inn, m.ok ∧ x < m.w) ∧ sz.length = inn.length ∧ st.length = inn.length ∧ inn.length ≤ 3 ∧ (∀ i, i < inn.length → st.getD i 0 < (inn.getD i ⟨0, 0, 0, [], []⟩).many) ∧ (∀ i, i ≤ inn.length → rowN inn sz st x i < 10000) ∧ (∀ y ∈ sz, y < 10000) ∧ rowN inn sz st x inn.length < o.w ∧
  Q (.d (.tup [.int (o.out s0 (rowN inn sz st x inn.length) : Nat), .tup (natsD (o.st s0 (rowN inn sz st x inn.length) :: behN inn st x inn.length))])) []

def fs_joined : FS := fun vs l Q E => ∃ (o : Mc) (inn : List Mc) (sz : List Nat) (w : Nat), vs = [.d (mcD o), .d (.tup (inn.map mcD)), .d (.tup (natsD sz)), .d (.int (w : Int))] ∧ l = [] ∧ Fits o inn sz w ∧
  (∀ J, joinJ (fJ o inn sz) w (startN o inn) = some J → Q (.d (mcD (jm w J))) []) ∧ (joinJ (fJ o inn sz) w (startN o inn) = none → ∀ l', E (.own "TooMany" ["limit"] [.int 400]) l')

def askD (o : Mc) (inn : List Mc) (sz : List Nat) (w : Nat) : D := match joinJ (fJ o inn sz) w (startN o inn) with
  | some J => .tup [.bl true, mcD (jm w J)]
  | none => .tup [.bl false, .int 400]
def fs_law_asked : FS := fun vs l Q _ => ∃ (o : Mc) (inn : List Mc) (sz : List Nat) (w : Nat), vs = [.d (mcD o), .d (.tup (inn.map mcD)), .d (.tup (natsD sz)), .d (.int (w : Int))] ∧ l = [] ∧ Fits o inn sz w ∧ Q (.d (askD o inn sz w)) []

def fs_law_holds : FS := fun vs l Q _ => ∃ (o : Mc) (inn : List Mc) (sz : List Nat) (w : Nat) (ws : List Nat), vs = [.d (mcD o), .d (.tup (inn.map mcD)), .d (.tup (natsD sz)), .d (.int (w : Int)), .d (dueD o inn sz w), .d (.tup (natsD ws))] ∧ l = [] ∧ Fits o inn sz w ∧ (∀ c ∈ o.ou, c < 6) ∧ (∀ x ∈ ws, x < w) ∧ ws.length ≤ 1000 ∧ Q (.d (.bl true)) []

def fs_law_case : FS := fun vs l Q _ => ∃ (ns : List Int) (w most : Nat), vs = [.loc 0, .d (.int w), .d (.int most)] ∧ l = [.lst (ns.map .int)] ∧ Pur ns ∧ 1 ≤ w ∧ w ≤ 24 ∧ 1 ≤ most ∧ most ≤ 6 ∧
  ∀ (o : Mc) (inn : List Mc) (sz : List Nat) (ns' : List Int), Fits o inn sz w → (∀ c ∈ o.ou, c < 6) → Pur ns' → Q (.d (.tup [mcD o, .tup (inn.map mcD), .tup (natsD sz)])) [.lst (ns'.map .int)]

def fs_law_counter : FS := fun vs l Q _ => ∃ (many letter : Nat), vs = [.d (.int many), .d (.int letter)] ∧ l = [] ∧ 1 ≤ many ∧ many ≤ 1000 ∧ Q (.d (mcD (cnt many letter))) []

def fs_law_dear : FS := fun vs l Q _ => ∃ (ns : List Int), vs = [.loc 0] ∧ l = [.lst (ns.map .int)] ∧ Pur ns ∧
  ∀ (o : Mc) (inn : List Mc) (w : Nat) (ns' : List Int), Fits o inn [2, 2] w → (∀ c ∈ o.ou, c < 3) → Pur ns' → Q (.d (.tup [mcD o, .tup (inn.map mcD), .int (w : Int)])) [.lst (ns'.map .int)]

def fs_law_dear_holds : FS := fun vs l Q _ => ∃ (ns : List Int), vs = [.loc 0] ∧ l = [.lst (ns.map .int)] ∧ Pur ns ∧ ∀ (ns' : List Int), Pur ns' → Q (.d (.bl true)) [.lst (ns'.map .int)]

def fs_law : FS := fun vs l Q _ => ∃ ns : List Int, vs = [.d (.scr (ns.map .int))] ∧ l = [] ∧ ns.length ≤ 63 ∧ Q (.d (.bl true)) []
theorem fs_end (ns : List Int) (h : ns.length ≤ 63) : fs_law [.d (.scr (ns.map .int))] [] endD endX := ⟨ns, rfl, rfl, h, rfl⟩
section
variable {P : Program} {w : World} {K : PySem.W.Frag} {mg : Str → Option Value} {base : Heap}
structure Cs (P : Program) (w : World) (K : PySem.W.Frag) (mg : Str → Option Value) (base : Heap) : Prop where
  u : True
theorem ok_run_machine {f : Addr} {fd : FuncData} (F : Fun K "run_machine" "run_machine" s_run_machine f fd) (B : Bt mg) : FnOk P w K mg base (L2.CX P w) 1 f fd ["machine", "letters"] (spQ K 2 fs_run_machine) := by
  have nd := sc_run_machine.nd
  refine fun_q (k := 0) F sc_run_machine 2 rfl (fun cdv A outer s H E hr tk => (qss_cons (qs_asg (qe_var 0) (qg_tup (n := 4) rfl (qgs_cons (qg_name (i := 2) nd rfl (by first | exact Or.inl rfl | exact Or.inr rfl)) (qgs_cons (qg_name (i := 3) nd rfl (by first | exact Or.inl rfl | exact Or.inr rfl)) (qgs_cons (qg_name (i := 4) nd rfl (by first | exact Or.inl rfl | exact Or.inr rfl)) (qgs_cons (qg_name (i := 5) nd rfl (by first | exact Or.inl rfl | exact Or.inr rfl)) qgs_nil))))))
    (qss_cons (qs_set (i := 6) nd rfl (by first | exact Or.inl rfl | exact Or.inr rfl) (qe_lst (f := .cell) qa_nil))
    (qss_cons (qs_for (passes_of rfl) rfl (qi_or (qi_tup (pi_tup (qe_var 1))) (qi_lst (qe_var 1))) (qg_name (i := 7) nd rfl (by first | exact Or.inl rfl | exact Or.inr rfl)) (qss_cons (qs_set (i := 8) nd rfl (by first | exact Or.inl rfl | exact Or.inr rfl) (qe_op op_add ref_I0 (qe_op op_mulW ref_II (qe_var 3) (qe_var 2)) (qe_var 7)))
    (qss_cons (qs_expr (qe_bm PySem.F.slot_list_append PySem.F.type_list_append mt_append ref_append (qe_var 6) (qa_cons (qe_ix (qe_var 5) (qe_var 8) (fun _ _ => rfl)) qa_nil)))
    (qss_one (qs_set (i := 3) nd rfl (by first | exact Or.inl rfl | exact Or.inr rfl) (qe_ix (qe_var 4) (qe_var 8) (fun _ _ => rfl)))))))
    (qss_one (qs_ret (qe_callTy call_tuple_of ref_tuple (by rfl) B.tuple (by decide +kernel) (qa_cons (qe_var 6) qa_nil)))))))) (fun ds l Qd Ed hl h => ?_)
  obtain ⟨m, ws, rfl, rfl, ok, hw, hl2, q⟩ := h
  unfold mcD at hl ⊢
  walk_at "q"
  refine .inl (loopX (fun i σ l => ∃ x7 x8, σ = [some (.d (.tup [.int (m.w : Int), .int (m.s : Int), .tup (natsD m.nx), .tup (natsD m.ou)])), some (.d (.tup (natsD ws))), some (.d (.int m.w)), some (.d (.int (m.aft m.s (ws.take i) : Nat))), some (.d (.tup (natsD m.nx))), some (.d (.tup (natsD m.ou))), some (.loc 0), x7, x8] ∧ l = [.lst (natsD (m.run m.s (ws.take i)))]) ⟨_, _, rfl, rfl⟩ ?_ ?_)
  · rintro i x σ l hx ⟨x7, x8, rfl, rfl⟩
    obtain ⟨n, hn, rfl⟩ := natsD_get hx
    have hi := (List.getElem?_eq_some_iff.mp hn).1
    have ha := Mc.aft_lt (xs := ws.take i) ok ok.2.2.2.2.1 fun y hy => hw y (List.mem_of_mem_take hy)
    have hnw := hw n (List.mem_of_getElem? hn)
    have hc := cell_lt ha hnw
    have hrun := m.run_snoc n m.s (ws.take i)
    have haft := m.aft_snoc n m.s (ws.take i)
    have hrl := m.run_len m.s (ws.take i)
    rw [List.length_take] at hrl
    rw [List.take_add_one, hn, Option.toList_some, hrun, haft]
    generalize m.run m.s (ws.take i) = R at *
    generalize m.aft m.s (ws.take i) = s at *
    have e : (s : Int) * (m.w : Int) + (n : Int) = ((s * m.w + n : Nat) : Int) := by simp
    walk_at "q"
    rw [e]
    have h1 : s * m.w + n < m.ou.length := by rw [ok.2.2.1]; exact hc
    have h2 : s * m.w + n < m.nx.length := by rw [ok.2.1]; exact hc
    refine ⟨mulW_nat (by have := ok.2.2.2.2.2.2; omega) (by have := ok.2.2.2.2.2.1; omega), _, atI_nat rfl h1, by rw [natsD_len]; exact Nat.lt_of_le_of_lt (by omega : _ ≤ 1000) (by decide), _, atI_nat rfl h2, _, _, rfl, ?_⟩
    rw [natsD_app]
    rfl
  · rintro σ l ⟨x7, x8, rfl, rfl⟩
    rw [natsD_len, List.take_length]
    walk_at "q"
    exact q
theorem ok_law_mixed {f : Addr} {fd : FuncData} (F : Fun K "_law_mixed" "_law_mixed" s_law_mixed f fd) (B : Bt mg) : FnOk P w K mg base (L2.CX P w) 1 f fd ["number", "place"] (spQ K 2 fs_law_mixed) := by
  have nd := sc_law_mixed.nd
  refine fun_q (k := 0) F sc_law_mixed 2 rfl (fun cdv A outer s H E hr tk => (qss_cons (qs_set (i := 2) nd rfl (by first | exact Or.inl rfl | exact Or.inr rfl) qe_int)
    (qss_cons (qs_set (i := 3) nd rfl (by first | exact Or.inl rfl | exact Or.inr rfl) (qe_op op_mod ref_II (qe_callTy call_int1 ref_int (by rfl) B.int (by decide +kernel) (qa_cons (qe_op op_add ref_I0 (qe_op op_add ref_I0 (qe_op op_mul ref_II (qe_var 0) qe_int) (qe_op op_mul ref_II (qe_var 1) qe_int)) qe_int) qa_nil)) qe_int))
    (qss_cons (qs_for (passes_of rfl) rfl (qi_range1 (pi_range1 (by rfl) B.range (qa_cons qe_int qa_nil))) (qg_name (i := 4) nd rfl (by first | exact Or.inl rfl | exact Or.inr rfl)) (qss_cons (qs_set (i := 3) nd rfl (by first | exact Or.inl rfl | exact Or.inr rfl) (qe_op op_mod ref_II (qe_callTy call_int1 ref_int (by rfl) B.int (by decide +kernel) (qa_cons (qe_op op_add ref_I0 (qe_op op_add ref_I0 (qe_op op_mul ref_II (qe_var 3) qe_int) (qe_op op_mul ref_II (qe_var 4) qe_int)) qe_int) qa_nil)) qe_int))
    (qss_one (qs_set (i := 2) nd rfl (by first | exact Or.inl rfl | exact Or.inr rfl) (qe_op op_add ref_I0 (qe_op op_mul ref_II (qe_var 2) qe_int) (qe_op op_mod ref_II (qe_callTy call_int1 ref_int (by rfl) B.int (by decide +kernel) (qa_cons (qe_op op_add ref_I0 (qe_op op_mul ref_II (qe_var 3) (qe_var 3)) (qe_op op_mul ref_II (qe_var 4) qe_int)) qa_nil)) qe_int))))))
    (qss_one (qs_ret (qe_var 2))))))) (fun ds l Qd Ed hl h => ?_)
  obtain ⟨a, b, rfl, rfl, q⟩ := h
  walk_at "q"
  refine loopR (fun i σ l => ∃ t s x, σ = [some (.d (.int a)), some (.d (.int b)), some (.d (.int t)), some (.d (.int s)), x] ∧ l = [] ∧ 0 ≤ t ∧ 0 ≤ s ∧ s < 2147483647) ?_ ?_ ?_
  · exact ⟨0, _, _, rfl, rfl, by omega, by omega, by omega⟩
  · rintro i σ l hi ⟨t, s, x, rfl, rfl, h1, h2, h3⟩
    walk_at "q"
    have m1 := Int.emod_nonneg (s * 48271 + (i : Int) * 69621 + 12345) (show (2147483647 : Int) ≠ 0 by decide)
    have m2 := Int.emod_lt_of_pos (s * 48271 + (i : Int) * 69621 + 12345) (show (0 : Int) < 2147483647 by decide)
    generalize (s * 48271 + (i : Int) * 69621 + 12345) % 2147483647 = m at *
    have m3 := Int.emod_nonneg (m * m + (i : Int) * 7) (show (2147483647 : Int) ≠ 0 by decide)
    exact ⟨.inl ⟨by omega, by omega⟩, _, _, _, rfl, by omega, m1, m2⟩
  · rintro σ l ⟨t, s, x, rfl, rfl, h1, h2, h3⟩
    walk_at "q"
    exact q _ h1
structure Cs_law_purse (P : Program) (w : World) (K : PySem.W.Frag) (mg : Str → Option Value) (base : Heap) : Prop where
  law_mixed : CalQ P w K mg base 1 "_law_mixed" 2 fs_law_mixed
theorem ok_law_purse {f : Addr} {fd : FuncData} (F : Fun K "_law_purse" "_law_purse" s_law_purse f fd) (B : Bt mg) (C : Cs_law_purse P w K mg base) : FnOk P w K mg base (L2.CX P w) 2 f fd ["script"] (spQ K 1 fs_law_purse) := by
  have nd := sc_law_purse.nd
  refine fun_q (k := 1) F sc_law_purse 1 rfl (fun cdv A outer s H E hr tk => (qss_cons (qs_set (i := 1) nd rfl (by first | exact Or.inl rfl | exact Or.inr rfl) (qe_lst (f := .cell) qa_nil))
    (qss_cons (qs_set (i := 2) nd rfl (by first | exact Or.inl rfl | exact Or.inr rfl) (qe_lst (f := .cell) qa_nil))
    (qss_cons (qs_for (passes_of rfl) rfl (qi_range1 (pi_range1 (by rfl) B.range (qa_cons (qe_callB call_len_seq ref_len (by rfl) B.len (by decide +kernel) (qa_cons (qe_sl sl_list (ref_slL (f := .frz)) (qe_var 0) qo_none (qo_some qe_int)) qa_nil)) qa_nil))) (qg_name (i := 3) nd rfl (by first | exact Or.inl rfl | exact Or.inr rfl)) (qss_cons (qs_set (i := 4) nd rfl (by first | exact Or.inl rfl | exact Or.inr rfl) (qe_ifE (qt_cmp (op_ge) ref_B0 (qe_ix (qe_var 0) (qe_var 3) (fun _ _ => rfl)) qe_int (nomark _)) (qe_ix (qe_var 0) (qe_var 3) (fun _ _ => rfl)) (qe_un un_neg ref_U (qe_ix (qe_var 0) (qe_var 3) (fun _ _ => rfl)))))
    (qss_one (qs_if (qt_cmp (op_ge) ref_B0 (qe_var 4) qe_int (nomark _)) (qss_cons (qs_expr (qe_bm PySem.F.slot_list_append PySem.F.type_list_append mt_append ref_append (qe_var 1) (qa_cons (qe_op op_fdiv ref_II (qe_var 4) qe_int) qa_nil)))
    (qss_one (qs_expr (qe_bm PySem.F.slot_list_append PySem.F.type_list_append mt_append ref_append (qe_var 2) (qa_cons (qe_call C.law_mixed hr (by decide) tk (by rfl) (qa_cons (qe_op op_mod ref_II (qe_callTy call_int1 ref_int (by rfl) B.int (by decide +kernel) (qa_cons (qe_var 4) qa_nil)) qe_int) (qa_cons (qe_var 3) qa_nil))) qa_nil))))) (qss_one (qs_expr (qe_bm PySem.F.slot_list_append PySem.F.type_list_append mt_append ref_append (qe_var 1) (qa_cons (qe_call C.law_mixed hr (by decide) tk (by rfl) (qa_cons (qe_op op_add ref_I0 (qe_op op_mul ref_II qe_int (qe_op op_mod ref_II (qe_callTy call_int1 ref_int (by rfl) B.int (by decide +kernel) (qa_cons (qe_var 4) qa_nil)) qe_int)) (qe_ifE (qt_cmp (op_lt) ref_B0 (qe_ix (qe_var 0) (qe_var 3) (fun _ _ => rfl)) qe_int (nomark _)) qe_int qe_int)) (qa_cons (qe_var 3) qa_nil))) qa_nil))))))))
    (qss_one (qs_ret (qe_ifE (qt_cmp (op_gt) ref_B0 (qe_callB call_len_seq ref_len (by rfl) B.len (by decide +kernel) (qa_cons (qe_var 1) qa_nil)) qe_int (nomark _)) (qe_op op_cat (ref_cat (f := .cell)) (qe_var 1) (qe_var 2)) (qe_lst (f := .cell) (qa_cons (qe_call C.law_mixed hr (by decide) tk (by rfl) (qa_cons qe_int (qa_cons qe_int qa_nil))) qa_nil))))))))) (fun ds l Qd Ed hl h => ?_)
  obtain ⟨ns, rfl, rfl, hn, q⟩ := h
  walk_at "q"
  rw [show QL.cutD (ns.map D.int) none (some 63) = ns.map D.int from cut63 (k := 63) (by simpa using hn)]
  simp only [List.length_map]
  refine ⟨by omega, by omega, ?_⟩
  refine loopR (fun i σ l => ∃ (xs bs : List Int) (x y : Option QL.P), σ = [some (.d (.scr (ns.map .int))), some (.loc 0), some (.loc 1), x, y] ∧ l = [.lst (xs.map .int), .lst (bs.map .int)] ∧ xs.length = i ∧ bs.length ≤ i ∧ (∀ n ∈ xs, 0 ≤ n) ∧ (∀ n ∈ bs, 0 ≤ n)) ⟨[], [], _, _, rfl, rfl, rfl, by simp, by simp, by simp⟩ ?_ ?_
  · rintro i σ l hi ⟨xs, bs, x, y, rfl, rfl, ha, hb, h1, h2⟩
    walk_at "q"
    have hi2 : i < ns.length := by omega
    simp only [atI_m (f := D.int) (k := (i : Int)) rfl (get_at hi2), Option.some.injEq, exists_eq_left']
    generalize ns[i] = v
    have end1 : ∀ (n : Nat), n < 100 → n < sizeLine := fun n h => Nat.lt_trans h (by decide)
    have big : ∀ u : Int, u ≥ 1000000000000000000 → (∀ n : Int, n ∈ xs ++ [u / 2] → 0 ≤ n) := fun u hu n h => by
      rcases List.mem_append.mp h with h | h
      · exact h1 n h
      · simp at h; omega
    have add : ∀ (zs : List Int) (r : Int), (∀ n ∈ zs, 0 ≤ n) → 0 ≤ r → ∀ n : Int, n ∈ zs ++ [r] → 0 ≤ n := fun zs r hz hr n h => by
      rcases List.mem_append.mp h with h | h
      · exact hz n h
      · simp at h; omega
    split <;> split
    · rename_i h3 h4
      refine ⟨by decide, end1 _ (by omega), _, _, rfl, rfl, fun r hr => ?_⟩
      walk_at "q"
      exact ⟨end1 _ (by omega), xs ++ [v / 2], bs ++ [r], _, _, rfl, by simp, by simp [ha], by simp; omega, big v h4, add bs r h2 hr⟩
    · rename_i h3 h4
      split
      all_goals
        refine ⟨_, _, rfl, rfl, fun r hr => ?_⟩
        walk_at "q"
        exact ⟨end1 _ (by omega), xs ++ [r], bs, _, _, rfl, by simp, by simp [ha], by omega, add xs r h1 hr, h2⟩
    · rename_i h3 h4
      refine ⟨end1 _ (by omega), _, _, rfl, rfl, fun r hr => ?_⟩
      walk_at "q"
      exact ⟨end1 _ (by omega), xs ++ [-v / 2], bs ++ [r], _, _, rfl, by simp, by simp [ha], by simp; omega, big (-v) h4, add bs r h2 hr⟩
    · rename_i h3 h4
      split
      all_goals
        refine ⟨_, _, rfl, rfl, fun r hr => ?_⟩
        walk_at "q"
        exact ⟨end1 _ (by omega), xs ++ [r], bs, _, _, rfl, by simp, by simp [ha], by omega, add xs r h1 hr, h2⟩
  · rintro σ l ⟨xs, bs, x, y, rfl, rfl, ha, hb, h1, h2⟩
    walk_at "q"
    split
    · refine ⟨Nat.le_of_lt (Nat.lt_of_le_of_lt (show xs.length + bs.length ≤ 1000 by omega) (by decide)), ?_⟩
      have := q (xs ++ bs) (by simp; omega) (fun n h => by
        rcases List.mem_append.mp h with h | h
        · exact h1 n h
        · exact h2 n h)
      simpa using this
    · refine ⟨_, _, rfl, rfl, fun r hr => ?_⟩
      walk_at "q"
      have := q [r] (by simp) (by simpa using hr)
      simpa using this
theorem ok_law_take {f : Addr} {fd : FuncData} (F : Fun K "_law_take" "_law_take" s_law_take f fd) (B : Bt mg) : FnOk P w K mg base (L2.CX P w) 1 f fd ["purse", "many"] (spQ K 2 fs_law_take) := by
  have nd := sc_law_take.nd
  refine fun_q (k := 0) F sc_law_take 2 rfl (fun cdv A outer s H E hr tk => (qss_cons (qs_while (passes_of rfl) (QW.qt (qw_and (qt_cmp (op_gt) ref_B0 (qe_callB call_len_seq ref_len (by rfl) B.len (by decide +kernel) (qa_cons (qe_var 0) qa_nil)) qe_int (nomark _)) (qw_and1 (qt_cmp (op_eqD hr.units) ref_eq (qe_ix (qe_var 0) qe_int (fun _ _ => rfl)) qe_int (nomark _))))) (qss_one (qs_expr (qe_bm PySem.F.slot_list_pop PySem.F.type_list_pop mt_popAt ref_popAt (qe_var 0) (qa_cons qe_int qa_nil)))))
    (qss_cons (qs_if (qt_cmp (op_eqD hr.units) ref_eq (qe_callB call_len_seq ref_len (by rfl) B.len (by decide +kernel) (qa_cons (qe_var 0) qa_nil)) qe_int (nomark _)) (qss_one (qs_ret qe_int)) qss_nil)
    (qss_cons (qs_set (i := 2) nd rfl (by first | exact Or.inl rfl | exact Or.inr rfl) (qe_op op_mod ref_II (qe_callTy call_int1 ref_int (by rfl) B.int (by decide +kernel) (qa_cons (qe_ix (qe_var 0) qe_int (fun _ _ => rfl)) qa_nil)) (qe_var 1)))
    (qss_cons (qs_asg (qe_op op_fdiv ref_II (qe_ix (qe_var 0) qe_int (fun _ _ => rfl)) (qe_var 1)) (qg_subL (W := W0) (qe_var 0) qe_int))
    (qss_one (qs_ret (qe_var 2)))))))) (fun ds l Qd Ed hl h => ?_)
  obtain ⟨ns, m, rfl, rfl, hp, h1, h2, q⟩ := h
  walk_at "q"
  refine whileI (fun σ l => ∃ ns', σ = [some (.loc 0), some (.d (.int m)), none] ∧ l = [.lst (ns'.map .int)] ∧ Pur ns') (fun _ l => match l with | [.lst ws] => ws.length | _ => 0) ⟨_, rfl, rfl, hp⟩ ?_
  rintro σ l ⟨ns', rfl, rfl, hp'⟩
  cases ns' with
  | nil =>
    walk_at "q"
    exact q 0 [] (by omega) (by omega) hp'
  | cons x r =>
    walk_at "q"
    have hx : 0 ≤ x := hp'.2 x (by simp)
    have hr : Pur r := ⟨by have := hp'.1; simp at this; omega, fun n h => hp'.2 n (by simp [h])⟩
    have m1 := Int.emod_nonneg x (show m ≠ 0 by omega)
    have m2 := Int.emod_lt_of_pos x (show 0 < m by omega)
    split
    · exact ⟨0, D.int x, rfl, rfl, r.length, by omega, by simp, r, rfl, hr⟩
    · refine ⟨by omega, ⟨by omega, by omega⟩, q (x % m) (x / m :: r) m1 m2 ⟨by have := hp'.1; simpa using this, fun n h => ?_⟩⟩
      rcases List.mem_cons.mp h with h | h
      · rw [h]
        exact Int.ediv_nonneg hx (by omega)
      · exact hr.2 n h
structure Cs_law_row (P : Program) (w : World) (K : PySem.W.Frag) (mg : Str → Option Value) (base : Heap) : Prop where
  law_take : CalQ P w K mg base 1 "_law_take" 2 fs_law_take
theorem ok_law_row {f : Addr} {fd : FuncData} (F : Fun K "_law_row" "_law_row" s_law_row f fd) (B : Bt mg) (C : Cs_law_row P w K mg base) : FnOk P w K mg base (L2.CX P w) 2 f fd ["purse", "long", "many"] (spQ K 3 fs_law_row) := by
  have nd := sc_law_row.nd
  refine fun_q (k := 1) F sc_law_row 3 rfl (fun cdv A outer s H E hr tk => (qss_one (qs_ret (qe_callTy call_tuple_of ref_tuple (by rfl) B.tuple (by decide +kernel) (qa_cons (qe_lc (f := .frz) (own := [("place", 3)]) rfl nd (qi_range1 (pi_range1 (by rfl) B.range (qa_cons (qe_var 1) qa_nil))) (blkOk_by (N := N_law_row) (sc := defScope s_law_row) (by decide +kernel)) (fun _ _ _ _ _ => (qgv_name (i := 3) (by decide) nd rfl (by first | exact Or.inl rfl | exact Or.inr rfl))) (fun _ _ _ _ _ => qts_nil) (fun _ _ _ _ _ => (qe_call C.law_take hr (by decide) takes0 (by rfl) (qa_cons (qe_var 0) (qa_cons (qe_var 2) qa_nil))))) qa_nil))))) (fun ds l Qd Ed hl h => ?_)
  obtain ⟨ns, k, m, rfl, rfl, hp, hk, h1, h2, q⟩ := h
  walk_at "q"
  refine ⟨by omega, by omega, ?_⟩
  refine lcI (fun i acc l => ∃ rs ns' : List Int, acc = rs.map .int ∧ l = [.lst (ns'.map .int)] ∧ (∀ r ∈ rs, 0 ≤ r ∧ r < m) ∧ Pur ns') (by rw [rangeD_len]; exact small1000 (by omega)) ⟨[], ns, rfl, rfl, by simp, hp⟩ ?_ ?_
  · rintro i x acc l hx ha ⟨rs, ns', rfl, rfl, hr, hp'⟩
    obtain ⟨hi, rfl⟩ := rangeD_get hx
    walk_at "q"
    refine ⟨ns', m, rfl, rfl, hp', h1, h2, fun r ns'' r0 r1 hp'' => ?_⟩
    simp only [List.length_map] at ha
    exact ⟨⟨by simp [ha], by omega⟩, rs ++ [r], ns'', by simp, rfl, by
      intro x hx
      rcases List.mem_append.mp hx with h | h
      · exact hr x h
      · simp at h; omega, hp''⟩
  · rintro acc l ha ⟨rs, ns', rfl, rfl, hr, hp'⟩
    walk_at "q"
    exact q rs ns' (by simpa [rangeD_len] using ha) hr hp'
theorem ok_law_truth {f : Addr} {fd : FuncData} (F : Fun K "_law_truth" "_law_truth" s_law_truth f fd) (B : Bt mg) : FnOk P w K mg base (L2.CX P w) 1 f fd ["thing"] (spQ K 1 fs_law_truth) := by
  have nd := sc_law_truth.nd
  refine fun_q (k := 0) F sc_law_truth 1 rfl (fun cdv A outer s H E hr tk => (qss_cons (qs_set (i := 1) nd rfl (by first | exact Or.inl rfl | exact Or.inr rfl) (qe_lst (f := .cell) (qa_cons (qe_var 0) qa_nil)))
    (qss_cons (qs_while (passes_of rfl) (qt_cmp (op_gt) ref_B0 (qe_callB call_len_seq ref_len (by rfl) B.len (by decide +kernel) (qa_cons (qe_var 1) qa_nil)) qe_int (nomark _)) (qss_cons (qs_set (i := 2) nd rfl (by first | exact Or.inl rfl | exact Or.inr rfl) (qe_bm0 PySem.F.slot_list_pop PySem.F.type_list_pop mt_pop ref_pop (qe_var 1)))
    (qss_cons (qs_if (qt_val (qe_callB call_isi ref_isi (by rfl) B.isinstance (by decide +kernel) (qa_cons (qe_var 2) (qa_cons (qe_type (n := "bool") (by rfl) B.bool (by decide +kernel)) qa_nil)))) (qss_one (qs_ret qe_bl)) qss_nil)
    (qss_one (qs_if (qt_val (qe_callB call_isi ref_isi (by rfl) B.isinstance (by decide +kernel) (qa_cons (qe_var 2) (qa_cons (qe_type (n := "tuple") (by rfl) B.tuple (by decide +kernel)) qa_nil)))) (qss_one (qs_expr (qe_bm PySem.F.slot_list_extend PySem.F.type_list_extend mt_ext ref_extend (qe_var 1) (qa_cons (qe_var 2) qa_nil)))) qss_nil)))))
    (qss_one (qs_ret qe_bl))))) (fun ds l Qd Ed hl h => ?_)
  obtain ⟨d, rfl, rfl, hd, hs, q⟩ := h
  walk_at "q"
  refine whileI (fun σ l => ∃ x ws, σ = [some (.d d), some (.loc 0), x] ∧ l = [.lst ws] ∧ (∀ w ∈ ws, noB w) ∧ D.szs ws ≤ 100000) (fun _ l => match l with | [.lst ws] => D.szs ws | _ => 0) ⟨_, _, rfl, rfl, by simpa using hd, by simp [D.szs]; omega⟩ ?_
  rintro σ l ⟨x, ws, rfl, rfl, hw, hz⟩
  walk_at "q"
  split
  · rename_i h0
    obtain ⟨ys, y, rfl, e1, e2⟩ := last_split (xs := ws) (by rintro rfl; simp at h0)
    have hy : noB y := hw y (by simp)
    have hys : ∀ w ∈ ys, noB w := fun w h => hw w (by simp [h])
    have hsz : D.szs (ys ++ [y]) = D.szs ys + y.sz := by rw [szs_app]; simp [D.szs]
    have hp := sz_pos y
    have hl2 := len_szs ys
    rw [hsz] at hz
    refine ⟨y, e1, ?_⟩
    rw [e2]
    cases y with
    | bl _ => simp [noB] at hy
    | scr _ => simp [noB] at hy
    | ty _ => simp [noB] at hy
    | obj _ _ _ => simp [noB] at hy
    | ktu _ => simp [noB] at hy
    | dk _ _ => simp [noB] at hy
    | dt _ _ => simp [noB] at hy
    | non => exact ⟨_, by show D.szs ys < _; omega, rfl, _, _, rfl, rfl, hys, by omega⟩
    | int _ => exact ⟨_, by show D.szs ys < _; omega, rfl, _, _, rfl, rfl, hys, by omega⟩
    | str _ => exact ⟨_, by show D.szs ys < _; omega, rfl, _, _, rfl, rfl, hys, by omega⟩
    | lst _ => exact ⟨_, by show D.szs ys < _; omega, rfl, _, _, rfl, rfl, hys, by omega⟩
    | tup zs =>
      have h3 := len_szs zs
      simp only [D.sz] at hsz hz hp
      have h4 : ys.length + zs.length ≤ sizeLine := Nat.le_of_lt (Nat.lt_of_le_of_lt (show ys.length + zs.length ≤ 100000 by omega) (by decide))
      exact ⟨h4, _, by show D.szs (ys ++ zs) < _; rw [szs_app]; omega, rfl, _, _, rfl, rfl, fun w h => by
        rcases List.mem_append.mp h with h | h
        · exact hys w h
        · exact (by simpa [noB] using hy : ∀ x ∈ zs, noB x) w h, by rw [szs_app]; omega⟩
  · exact q
structure Cs_law_machine (P : Program) (w : World) (K : PySem.W.Frag) (mg : Str → Option Value) (base : Heap) : Prop where
  law_take : CalQ P w K mg base 1 "_law_take" 2 fs_law_take
  law_row : CalQ P w K mg base 2 "_law_row" 3 fs_law_row
theorem ok_law_machine {f : Addr} {fd : FuncData} (F : Fun K "_law_machine" "_law_machine" s_law_machine f fd) (B : Bt mg) (C : Cs_law_machine P w K mg base) : FnOk P w K mg base (L2.CX P w) 3 f fd ["purse", "width", "many", "size"] (spQ K 4 fs_law_machine) := by
  have nd := sc_law_machine.nd
  refine fun_q (k := 2) F sc_law_machine 4 rfl (fun cdv A outer s H E hr tk => (qss_cons (qs_set (i := 4) nd rfl (by first | exact Or.inl rfl | exact Or.inr rfl) (qe_call C.law_take hr (by decide) tk (by rfl) (qa_cons (qe_var 0) (qa_cons (qe_var 2) qa_nil))))
    (qss_one (qs_ret (qe_tup (qa_cons (qe_var 1) (qa_cons (qe_var 4) (qa_cons (qe_call C.law_row hr (by decide) tk (by rfl) (qa_cons (qe_var 0) (qa_cons (qe_op op_mulW ref_II (qe_var 2) (qe_var 1)) (qa_cons (qe_var 2) qa_nil)))) (qa_cons (qe_call C.law_row hr (by decide) tk (by rfl) (qa_cons (qe_var 0) (qa_cons (qe_op op_mulW ref_II (qe_var 2) (qe_var 1)) (qa_cons (qe_var 3) qa_nil)))) qa_nil))))))))) (fun ds l Qd Ed hl h => ?_)
  obtain ⟨ns, w, many, size, rfl, rfl, hp, w1, w2, m1, m2, s1, s2, q⟩ := h
  have hmw : many * w ≤ 10 * 100 := Nat.mul_le_mul m2 w2
  walk_at "q"
  refine ⟨ns, many, rfl, rfl, hp, by omega, by omega, fun r ns1 r0 r1 hp1 => ?_⟩
  obtain ⟨r, rfl⟩ := Int.eq_ofNat_of_zero_le r0
  walk_at "q"
  refine ⟨mulW_nat (by omega) (by omega), ns1, many * w, many, by simp, rfl, hp1, by omega, by omega, by omega, fun rs ns2 hl2 hr hp2 => ?_⟩
  walk_at "q"
  refine ⟨mulW_nat (by omega) (by omega), ns2, many * w, size, by simp, rfl, hp2, by omega, by omega, by omega, fun ts ns3 hl3 ht hp3 => ?_⟩
  walk_at "q"
  obtain ⟨nx, e1, e2, e3⟩ := nats_of hr
  obtain ⟨ou, e4, e5, e6⟩ := nats_of ht
  rw [e1, e4]
  exact q ⟨w, many, r, nx, ou⟩ ns3 ⟨w1, by show nx.length = many * w; omega, by show ou.length = many * w; omega, fun c hc => by have := e3 c hc; show c < many; omega, by show r < many; omega, w2, by show many ≤ 1000; omega⟩ rfl rfl (fun c hc => by have := e6 c hc; omega) hp3
theorem ok_law_shown {f : Addr} {fd : FuncData} (F : Fun K "_law_shown" "_law_shown" s_law_shown f fd) (B : Bt mg) : FnOk P w K mg base (L2.CX P w) 1 f fd ["machine", "letters"] (spQ K 2 fs_law_shown) := by
  have nd := sc_law_shown.nd
  refine fun_q (k := 0) F sc_law_shown 2 rfl (fun cdv A outer s H E hr tk => (qss_cons (qs_asg (qe_var 0) (qg_tup (n := 4) rfl (qgs_cons (qg_name (i := 2) nd rfl (by first | exact Or.inl rfl | exact Or.inr rfl)) (qgs_cons (qg_name (i := 3) nd rfl (by first | exact Or.inl rfl | exact Or.inr rfl)) (qgs_cons (qg_name (i := 4) nd rfl (by first | exact Or.inl rfl | exact Or.inr rfl)) (qgs_cons (qg_name (i := 5) nd rfl (by first | exact Or.inl rfl | exact Or.inr rfl)) qgs_nil))))))
    (qss_cons (qs_set (i := 6) nd rfl (by first | exact Or.inl rfl | exact Or.inr rfl) (qe_lst (f := .cell) qa_nil))
    (qss_cons (qs_for (passes_of rfl) rfl (qi_or (qi_tup (pi_tup (qe_var 1))) (qi_lst (qe_var 1))) (qg_name (i := 7) nd rfl (by first | exact Or.inl rfl | exact Or.inr rfl)) (qss_cons (qs_expr (qe_bm PySem.F.slot_list_append PySem.F.type_list_append mt_append ref_append (qe_var 6) (qa_cons (qe_ix (qe_var 5) (qe_op op_add ref_I0 (qe_op op_mulW ref_II (qe_var 3) (qe_var 2)) (qe_var 7)) (fun _ _ => rfl)) qa_nil)))
    (qss_one (qs_set (i := 3) nd rfl (by first | exact Or.inl rfl | exact Or.inr rfl) (qe_ix (qe_var 4) (qe_op op_add ref_I0 (qe_op op_mulW ref_II (qe_var 3) (qe_var 2)) (qe_var 7)) (fun _ _ => rfl))))))
    (qss_one (qs_ret (qe_callTy call_tuple_of ref_tuple (by rfl) B.tuple (by decide +kernel) (qa_cons (qe_var 6) qa_nil)))))))) (fun ds l Qd Ed hl h => ?_)
  obtain ⟨m, ws, e, rfl, ok, hw, hl2, q⟩ := h
  rcases e with rfl | rfl
  all_goals
    unfold mcD at hl ⊢
    walk_at "q"
  · refine .inl (loopX (fun i σ l => ∃ x7, σ = [some (.d (mcD m)), some (.d (.tup (natsD ws))), some (.d (.int m.w)), some (.d (.int (m.aft m.s (ws.take i) : Nat))), some (.d (.tup (natsD m.nx))), some (.d (.tup (natsD m.ou))), some (.loc 0), x7] ∧ l = [.lst (natsD (m.run m.s (ws.take i)))]) ⟨_, rfl, rfl⟩ ?_ ?_)
    · rintro i x σ l hx ⟨x7, rfl, rfl⟩
      obtain ⟨n, hn, rfl⟩ := natsD_get hx
      have hi := (List.getElem?_eq_some_iff.mp hn).1
      have ha := Mc.aft_lt (xs := ws.take i) ok ok.2.2.2.2.1 fun y hy => hw y (List.mem_of_mem_take hy)
      have hnw := hw n (List.mem_of_getElem? hn)
      have hc := cell_lt ha hnw
      have hrun := m.run_snoc n m.s (ws.take i)
      have haft := m.aft_snoc n m.s (ws.take i)
      have hrl := m.run_len m.s (ws.take i)
      rw [List.length_take] at hrl
      rw [List.take_add_one, hn, Option.toList_some, hrun, haft]
      generalize m.run m.s (ws.take i) = R at *
      generalize m.aft m.s (ws.take i) = s at *
      have e : (s : Int) * (m.w : Int) + (n : Int) = ((s * m.w + n : Nat) : Int) := by simp
      walk_at "q"
      rw [e]
      have h1 : s * m.w + n < m.ou.length := by rw [ok.2.2.1]; exact hc
      have h2 : s * m.w + n < m.nx.length := by rw [ok.2.1]; exact hc
      have hcm : CMulW (s : Int) (m.w : Int) := mulW_nat (by have := ok.2.2.2.2.2.2; omega) (by have := ok.2.2.2.2.2.1; omega)
      refine ⟨hcm, _, atI_nat rfl h1, by rw [natsD_len]; exact Nat.lt_of_le_of_lt (by omega : _ ≤ 1000) (by decide), hcm, _, atI_nat rfl h2, _, rfl, ?_⟩
      rw [natsD_app]
      rfl
    · rintro σ l ⟨x7, rfl, rfl⟩
      rw [natsD_len, List.take_length]
      walk_at "q"
      exact q
  · refine .inr (loopX (fun i σ l => ∃ x7, σ = [some (.d (mcD m)), some (.d (.lst (natsD ws))), some (.d (.int m.w)), some (.d (.int (m.aft m.s (ws.take i) : Nat))), some (.d (.tup (natsD m.nx))), some (.d (.tup (natsD m.ou))), some (.loc 0), x7] ∧ l = [.lst (natsD (m.run m.s (ws.take i)))]) ⟨_, rfl, rfl⟩ ?_ ?_)
    · rintro i x σ l hx ⟨x7, rfl, rfl⟩
      obtain ⟨n, hn, rfl⟩ := natsD_get hx
      have hi := (List.getElem?_eq_some_iff.mp hn).1
      have ha := Mc.aft_lt (xs := ws.take i) ok ok.2.2.2.2.1 fun y hy => hw y (List.mem_of_mem_take hy)
      have hnw := hw n (List.mem_of_getElem? hn)
      have hc := cell_lt ha hnw
      have hrun := m.run_snoc n m.s (ws.take i)
      have haft := m.aft_snoc n m.s (ws.take i)
      have hrl := m.run_len m.s (ws.take i)
      rw [List.length_take] at hrl
      rw [List.take_add_one, hn, Option.toList_some, hrun, haft]
      generalize m.run m.s (ws.take i) = R at *
      generalize m.aft m.s (ws.take i) = s at *
      have e : (s : Int) * (m.w : Int) + (n : Int) = ((s * m.w + n : Nat) : Int) := by simp
      walk_at "q"
      rw [e]
      have h1 : s * m.w + n < m.ou.length := by rw [ok.2.2.1]; exact hc
      have h2 : s * m.w + n < m.nx.length := by rw [ok.2.1]; exact hc
      have hcm : CMulW (s : Int) (m.w : Int) := mulW_nat (by have := ok.2.2.2.2.2.2; omega) (by have := ok.2.2.2.2.2.1; omega)
      refine ⟨hcm, _, atI_nat rfl h1, by rw [natsD_len]; exact Nat.lt_of_le_of_lt (by omega : _ ≤ 1000) (by decide), hcm, _, atI_nat rfl h2, _, rfl, ?_⟩
      rw [natsD_app]
      rfl
    · rintro σ l ⟨x7, rfl, rfl⟩
      rw [natsD_len, List.take_length]
      walk_at "q"
      exact q
theorem ok_is_number {f : Addr} {fd : FuncData} (F : Fun K "is_number" "is_number" s_is_number f fd) (B : Bt mg) : FnOk P w K mg base (L2.CX P w) 1 f fd ["thing"] (spQ K 1 fs_is_number) := by
  have nd := sc_is_number.nd
  refine fun_q (k := 0) F sc_is_number 1 rfl (fun cdv A outer s H E hr tk => (qss_one (qs_ret (qe_and (qe_callB call_isi ref_isi (by rfl) B.isinstance (by decide +kernel) (qa_cons (qe_var 0) (qa_cons (qe_type (n := "int") (by rfl) B.int (by decide +kernel)) qa_nil))) (qe_one (qe_not (qe_callB call_isi ref_isi (by rfl) B.isinstance (by decide +kernel) (qa_cons (qe_var 0) (qa_cons (qe_type (n := "bool") (by rfl) B.bool (by decide +kernel)) qa_nil))))))))) (fun ds l Qd Ed hl h => ?_)
  obtain ⟨a, rfl, rfl, q⟩ := h
  walk_at "q"
  rw [show isT "int" "int" = some true from rfl, show isT "int" "bool" = some false from rfl]
  exact q
structure Cs_is_within (P : Program) (w : World) (K : PySem.W.Frag) (mg : Str → Option Value) (base : Heap) : Prop where
  is_number : CalQ P w K mg base 1 "is_number" 1 fs_is_number
theorem ok_is_within {f : Addr} {fd : FuncData} (F : Fun K "is_within" "is_within" s_is_within f fd) (B : Bt mg) (C : Cs_is_within P w K mg base) : FnOk P w K mg base (L2.CX P w) 2 f fd ["thing", "low", "high"] (spQ K 3 fs_is_within) := by
  have nd := sc_is_within.nd
  refine fun_q (k := 1) F sc_is_within 3 rfl (fun cdv A outer s H E hr tk => (qss_one (qs_ret (qe_and (qe_call C.is_number hr (by decide) tk (by rfl) (qa_cons (qe_var 0) qa_nil)) (qe_one (qe_chain (op_le) ref_B0 (op_le) ref_B0 (qe_var 1) (qe_var 0) (qe_var 2))))))) (fun ds l Qd Ed hl h => ?_)
  obtain ⟨a, lo, hi, rfl, rfl, q⟩ := h
  walk_at "q"
  refine ⟨a, rfl, rfl, ?_⟩
  walk_at "q"
  unfold inB at q
  split
  · rename_i h1
    rw [decide_eq_true h1, Bool.true_and] at q
    exact q
  · rename_i h1
    rw [decide_eq_false h1, Bool.false_and] at q
    exact q
structure Cs_are_within (P : Program) (w : World) (K : PySem.W.Frag) (mg : Str → Option Value) (base : Heap) : Prop where
  is_within : CalQ P w K mg base 2 "is_within" 3 fs_is_within
theorem ok_are_within {f : Addr} {fd : FuncData} (F : Fun K "are_within" "are_within" s_are_within f fd) (B : Bt mg) (C : Cs_are_within P w K mg base) : FnOk P w K mg base (L2.CX P w) 3 f fd ["things", "low", "high"] (spQ K 3 fs_are_within) := by
  have nd := sc_are_within.nd
  refine fun_q (k := 2) F sc_are_within 3 rfl (fun cdv A outer s H E hr tk => (qss_cons (qs_if (qt_not (qt_val (qe_callB call_isi ref_isi (by rfl) B.isinstance (by decide +kernel) (qa_cons (qe_var 0) (qa_cons (qe_type (n := "tuple") (by rfl) B.tuple (by decide +kernel)) qa_nil))))) (qss_one (qs_ret qe_bl)) qss_nil)
    (qss_one (qs_ret (qe_callB (cr_all rfl) ref_all (by rfl) B.all (by decide +kernel) (qa_cons (qe_lc (f := .frz) (own := [("thing", 3)]) rfl nd (qi_tup (pi_tup (qe_var 0))) (blkOk_by (N := N_are_within) (sc := defScope s_are_within) (by decide +kernel)) (fun _ _ _ _ _ => (qgv_name (i := 3) (by decide) nd rfl (by first | exact Or.inl rfl | exact Or.inr rfl))) (fun _ _ _ _ _ => qts_nil) (fun _ _ _ _ _ => (qe_call C.is_within hr (by decide) takes0 (by rfl) (qa_cons (qe_var 3) (qa_cons (qe_var 1) (qa_cons (qe_var 2) qa_nil)))))) qa_nil)))))) (fun ds l Qd Ed hl h => ?_)
  obtain ⟨xs, lo, hi, rfl, rfl, hx, q⟩ := h
  walk_at "q"
  rw [show isT "tuple" "tuple" = some true from rfl]
  walk_at "q"
  refine lcI (fun i acc l => acc = ((xs.take i).map (inB lo hi)).map .bl ∧ l = []) (by rw [List.length_map]; exact Nat.lt_of_le_of_lt (by omega : _ ≤ 10000) (by decide)) ⟨rfl, rfl⟩ ?_ ?_
  · rintro i x acc l hx ha ⟨rfl, rfl⟩
    rw [List.getElem?_map] at hx
    obtain ⟨a, ha1, rfl⟩ := Option.map_eq_some_iff.mp hx
    have hii := (List.getElem?_eq_some_iff.mp ha1).1
    walk_at "q"
    refine ⟨a, lo, hi, rfl, rfl, ?_⟩
    walk_at "q"
    refine ⟨⟨by rw [List.length_take]; omega, by omega⟩, ?_⟩
    rw [List.take_add_one, ha1, Option.toList_some, List.map_append, List.map_append]
    rfl
  · rintro acc l ha ⟨rfl, rfl⟩
    rw [List.length_map, List.take_length]
    walk_at "q"
    exact ⟨_, rfl, by rw [List.all_map]; exact q⟩
structure Cs_is_machine (P : Program) (w : World) (K : PySem.W.Frag) (mg : Str → Option Value) (base : Heap) : Prop where
  is_within : CalQ P w K mg base 2 "is_within" 3 fs_is_within
  are_within : CalQ P w K mg base 3 "are_within" 3 fs_are_within
theorem ok_is_machine {f : Addr} {fd : FuncData} (F : Fun K "is_machine" "is_machine" s_is_machine f fd) (B : Bt mg) (C : Cs_is_machine P w K mg base) : FnOk P w K mg base (L2.CX P w) 4 f fd ["machine", "size"] (spQ K 2 fs_is_machine) := by
  have nd := sc_is_machine.nd
  refine fun_q (k := 3) F sc_is_machine 2 rfl (fun cdv A outer s H E hr tk => (qss_cons (qs_asg (qe_var 0) (qg_tup (n := 4) rfl (qgs_cons (qg_name (i := 2) nd rfl (by first | exact Or.inl rfl | exact Or.inr rfl)) (qgs_cons (qg_name (i := 3) nd rfl (by first | exact Or.inl rfl | exact Or.inr rfl)) (qgs_cons (qg_name (i := 4) nd rfl (by first | exact Or.inl rfl | exact Or.inr rfl)) (qgs_cons (qg_name (i := 5) nd rfl (by first | exact Or.inl rfl | exact Or.inr rfl)) qgs_nil))))))
    (qss_cons (qs_if (QW.qt (qw_or (qt_cmp (op_lt) ref_B0 (qe_var 2) qe_int (nomark _)) (qw_or (qt_cmp (op_lt) ref_B0 (qe_callB call_len_seq ref_len (by rfl) B.len (by decide +kernel) (qa_cons (qe_var 4) qa_nil)) (qe_var 2) (nomark _)) (qw_or1 (qt_cmp (op_neD hr.units) ref_ne (qe_callB call_len_seq ref_len (by rfl) B.len (by decide +kernel) (qa_cons (qe_var 5) qa_nil)) (qe_callB call_len_seq ref_len (by rfl) B.len (by decide +kernel) (qa_cons (qe_var 4) qa_nil)) (nomark _)))))) (qss_one (qs_ret qe_bl)) qss_nil)
    (qss_cons (qs_set (i := 6) nd rfl (by first | exact Or.inl rfl | exact Or.inr rfl) (qe_op op_fdiv ref_II (qe_callB call_len_seq ref_len (by rfl) B.len (by decide +kernel) (qa_cons (qe_var 4) qa_nil)) (qe_var 2)))
    (qss_cons (qs_if (QW.qt (qw_or (qt_cmp (op_neD hr.units) ref_ne (qe_op op_mulW ref_II (qe_var 6) (qe_var 2)) (qe_callB call_len_seq ref_len (by rfl) B.len (by decide +kernel) (qa_cons (qe_var 4) qa_nil)) (nomark _)) (qw_or1 (qt_not (qt_val (qe_call C.is_within hr (by decide) tk (by rfl) (qa_cons (qe_var 3) (qa_cons qe_int (qa_cons (qe_op op_sub ref_I0 (qe_var 6) qe_int) qa_nil))))))))) (qss_one (qs_ret qe_bl)) qss_nil)
    (qss_one (qs_ret (qe_and (qe_call C.are_within hr (by decide) tk (by rfl) (qa_cons (qe_var 4) (qa_cons qe_int (qa_cons (qe_op op_sub ref_I0 (qe_var 6) qe_int) qa_nil)))) (qe_one (qe_call C.are_within hr (by decide) tk (by rfl) (qa_cons (qe_var 5) (qa_cons qe_int (qa_cons (qe_op op_sub ref_I0 (qe_var 1) qe_int) qa_nil))))))))))))) (fun ds l Qd Ed hl h => ?_)
  obtain ⟨w, s, nx, ou, size, rfl, rfl, h1, h2, q⟩ := h
  unfold mD at hl ⊢
  walk_at "q"
  split
  · rename_i h; rw [right_no fun z => by have := z.1; omega] at q; exact q
  rename_i hw
  split
  · rename_i h
    rw [right_no fun z => by
      have h3 : (nx.length : Int) / w = 0 := Int.ediv_eq_zero_of_lt (by omega) h
      have h4 := z.2.2.2.1
      rw [h3, Int.zero_mul] at h4
      have h5 := List.length_pos_iff.mpr z.2.1
      omega] at q
    exact q
  rename_i hl2
  split
  · rename_i h; rw [right_no fun z => h (by have := z.2.2.1; omega)] at q; exact q
  rename_i ho
  have ho : ou.length = nx.length := by omega
  have hd0 : 0 ≤ (nx.length : Int) / w := Int.ediv_nonneg (by omega) (by omega)
  have hd1 : (nx.length : Int) / w ≤ nx.length := Int.ediv_le_self _ (by omega)
  refine ⟨⟨by omega, by omega⟩, mulW_int hd0 (by omega) (by omega) (by omega), ?_⟩
  split
  · rename_i h; rw [right_no fun z => h z.2.2.2.1] at q; exact q
  rename_i hm
  refine ⟨s, 0, _, rfl, rfl, ?_⟩
  walk_at "q"
  have hm : (nx.length : Int) / w * w = nx.length := Decidable.not_not.mp hm
  have hne : nx ≠ [] := List.length_pos_iff.mp (by omega)
  have hm2 := hm
  generalize hmm : (nx.length : Int) / w = many at *
  by_cases hs : inB 0 (many - 1) s = true
  · rw [hs]
    walk_at "q"
    refine ⟨nx, 0, _, rfl, rfl, h1, ?_⟩
    walk_at "q"
    unfold inB at hs
    simp only [Bool.and_eq_true, decide_eq_true_eq] at hs
    by_cases hn : nx.all (inB 0 (many - 1)) = true
    · rw [hn]
      walk_at "q"
      refine ⟨ou, 0, _, rfl, rfl, h2, ?_⟩
      walk_at "q"
      have e : right w s nx ou size = ou.all (inB 0 (size - 1)) := by
        unfold right
        rw [Bool.eq_iff_iff, decide_eq_true_iff]
        unfold inB at hn ⊢
        simp only [List.all_eq_true, Bool.and_eq_true, decide_eq_true_eq] at hn ⊢
        constructor
        · intro z x hx
          have := z.2.2.2.2.2.2.2 x hx
          omega
        · intro z
          exact ⟨by omega, hne, ho, by rw [hmm]; exact hm2, hs.1, by omega, fun c hc => by have := hn c hc; omega, fun c hc => by have := z c hc; omega⟩
      rw [e] at q
      exact q
    · have hn : nx.all (inB 0 (many - 1)) = false := by simpa using hn
      rw [hn]
      walk_at "q"
      rw [right_no fun z => by
        have : nx.all (inB 0 (many - 1)) = true := by
          unfold inB
          simp only [List.all_eq_true, Bool.and_eq_true, decide_eq_true_eq]
          intro x hx
          have := z.2.2.2.2.2.2.1 x hx
          omega
        rw [hn] at this; cases this] at q
      exact q
  · have hs : inB 0 (many - 1) s = false := by simpa using hs
    rw [hs]
    walk_at "q"
    rw [right_no fun z => by
      have : inB 0 (many - 1) s = true := by
        unfold inB
        simp only [Bool.and_eq_true, decide_eq_true_eq]
        have := z.2.2.2.2.1
        have := z.2.2.2.2.2.1
        omega
      rw [hs] at this; cases this] at q
    exact q
theorem ok_law_right {f : Addr} {fd : FuncData} (F : Fun K "_law_right" "_law_right" s_law_right f fd) (B : Bt mg) : FnOk P w K mg base (L2.CX P w) 1 f fd ["machine", "size"] (spQ K 2 fs_law_right) := by
  have nd := sc_law_right.nd
  refine fun_q (k := 0) F sc_law_right 2 rfl (fun cdv A outer s H E hr tk => (qss_cons (qs_asg (qe_var 0) (qg_tup (n := 4) rfl (qgs_cons (qg_name (i := 2) nd rfl (by first | exact Or.inl rfl | exact Or.inr rfl)) (qgs_cons (qg_name (i := 3) nd rfl (by first | exact Or.inl rfl | exact Or.inr rfl)) (qgs_cons (qg_name (i := 4) nd rfl (by first | exact Or.inl rfl | exact Or.inr rfl)) (qgs_cons (qg_name (i := 5) nd rfl (by first | exact Or.inl rfl | exact Or.inr rfl)) qgs_nil))))))
    (qss_cons (qs_if (QW.qt (qw_or (qt_cmp (op_lt) ref_B0 (qe_var 2) qe_int (nomark _)) (qw_or (qt_cmp (op_eqD hr.units) ref_eq (qe_callB call_len_seq ref_len (by rfl) B.len (by decide +kernel) (qa_cons (qe_var 4) qa_nil)) qe_int (nomark _)) (qw_or1 (qt_cmp (op_neD hr.units) ref_ne (qe_callB call_len_seq ref_len (by rfl) B.len (by decide +kernel) (qa_cons (qe_var 5) qa_nil)) (qe_callB call_len_seq ref_len (by rfl) B.len (by decide +kernel) (qa_cons (qe_var 4) qa_nil)) (nomark _)))))) (qss_one (qs_ret qe_bl)) qss_nil)
    (qss_cons (qs_set (i := 6) nd rfl (by first | exact Or.inl rfl | exact Or.inr rfl) (qe_op op_fdiv ref_II (qe_callB call_len_seq ref_len (by rfl) B.len (by decide +kernel) (qa_cons (qe_var 4) qa_nil)) (qe_var 2)))
    (qss_cons (qs_if (QW.qt (qw_or (qt_cmp (op_neD hr.units) ref_ne (qe_op op_mulW ref_II (qe_var 6) (qe_var 2)) (qe_callB call_len_seq ref_len (by rfl) B.len (by decide +kernel) (qa_cons (qe_var 4) qa_nil)) (nomark _)) (qw_or1 (qt_not (qt_chain (op_le) ref_B0 (op_lt) ref_B0 qe_int (qe_var 3) (qe_var 6)))))) (qss_one (qs_ret qe_bl)) qss_nil)
    (qss_one (qs_ret (qe_and (qe_callB (cr_all rfl) ref_all (by rfl) B.all (by decide +kernel) (qa_cons (qe_lc (f := .frz) (own := [("cell", 7)]) rfl nd (qi_tup (pi_tup (qe_var 4))) (blkOk_by (N := N_law_right) (sc := defScope s_law_right) (by decide +kernel)) (fun _ _ _ _ _ => (qgv_name (i := 7) (by decide) nd rfl (by first | exact Or.inl rfl | exact Or.inr rfl))) (fun _ _ _ _ _ => qts_nil) (fun _ _ _ _ _ => (qe_chain (op_le) ref_B0 (op_lt) ref_B0 qe_int (qe_var 7) (qe_var 6)))) qa_nil)) (qe_one (qe_callB (cr_all rfl) ref_all (by rfl) B.all (by decide +kernel) (qa_cons (qe_lc (f := .frz) (own := [("cell", 7)]) rfl nd (qi_tup (pi_tup (qe_var 5))) (blkOk_by (N := N_law_right) (sc := defScope s_law_right) (by decide +kernel)) (fun _ _ _ _ _ => (qgv_name (i := 7) (by decide) nd rfl (by first | exact Or.inl rfl | exact Or.inr rfl))) (fun _ _ _ _ _ => qts_nil) (fun _ _ _ _ _ => (qe_chain (op_le) ref_B0 (op_lt) ref_B0 qe_int (qe_var 7) (qe_var 1)))) qa_nil))))))))))) (fun ds l Qd Ed hl h => ?_)
  obtain ⟨w, s, nx, ou, size, rfl, rfl, h1, h2, hw9, q⟩ := h
  unfold mD at hl ⊢
  walk_at "q"
  split
  · rename_i h; rw [right_no fun z => by have := z.1; omega] at q; exact q
  rename_i hw
  split
  · rename_i h
    rw [right_no fun z => by
      have h5 := List.length_pos_iff.mpr z.2.1
      omega] at q
    exact q
  rename_i hl2
  split
  · rename_i h; rw [right_no fun z => h (by have := z.2.2.1; omega)] at q; exact q
  rename_i ho
  have ho : ou.length = nx.length := by omega
  have hd0 : 0 ≤ (nx.length : Int) / w := Int.ediv_nonneg (by omega) (by omega)
  have hd1 : (nx.length : Int) / w ≤ nx.length := Int.ediv_le_self _ (by omega)

  refine ⟨⟨by omega, by omega⟩, mulW_int hd0 (by omega) (by omega) (by omega), ?_⟩
  split
  · rename_i h; rw [right_no fun z => h z.2.2.2.1] at q; exact q
  rename_i hm
  have hm : (nx.length : Int) / w * w = nx.length := Decidable.not_not.mp hm
  have hne : nx ≠ [] := List.length_pos_iff.mp (by omega)
  have hm2 := hm
  generalize hmm : (nx.length : Int) / w = many at *
  split
  · rename_i hs0
    split
    · rename_i h; rw [right_no fun z => h (by have := z.2.2.2.2.2.1; omega)] at q; exact q
    · rename_i hs1
      refine lcI (fun i acc l => acc = ((nx.take i).map (inC many)).map .bl ∧ l = []) (by rw [List.length_map]; exact Nat.lt_of_le_of_lt (by omega : _ ≤ 10000) (by decide)) ⟨rfl, rfl⟩ ?_ ?_
      · rintro i x acc l hx ha ⟨rfl, rfl⟩
        rw [List.getElem?_map] at hx
        obtain ⟨a, ha1, rfl⟩ := Option.map_eq_some_iff.mp hx
        have hii := (List.getElem?_eq_some_iff.mp ha1).1
        walk_at "q"
        rw [List.take_add_one, ha1, Option.toList_some, List.map_append, List.map_append]
        have hz : ((nx.take i).length + 1 = i + 1 ∧ i + 1 ≤ nx.length) := ⟨by rw [List.length_take]; omega, by omega⟩
        split
        · rename_i h0
          exact ⟨hz, by simp [inC, h0]⟩
        · rename_i h0
          exact ⟨hz, by simp [inC, h0]⟩
      · rintro acc l ha ⟨rfl, rfl⟩
        rw [List.length_map, List.take_length]
        walk_at "q"
        refine ⟨_, rfl, ?_⟩
        rw [List.all_map]
        by_cases hn : nx.all (id ∘ inC many) = true
        · rw [if_pos hn]
          refine lcI (fun i acc l => acc = ((ou.take i).map (inC size)).map .bl ∧ l = []) (by rw [List.length_map]; exact Nat.lt_of_le_of_lt (by omega : _ ≤ 10000) (by decide)) ⟨rfl, rfl⟩ ?_ ?_
          · rintro i x acc l hx ha ⟨rfl, rfl⟩
            rw [List.getElem?_map] at hx
            obtain ⟨a, ha1, rfl⟩ := Option.map_eq_some_iff.mp hx
            have hii := (List.getElem?_eq_some_iff.mp ha1).1
            walk_at "q"
            rw [List.take_add_one, ha1, Option.toList_some, List.map_append, List.map_append]
            have hz : ((ou.take i).length + 1 = i + 1 ∧ i + 1 ≤ ou.length) := ⟨by rw [List.length_take]; omega, by omega⟩
            split
            · rename_i h0
              exact ⟨hz, by simp [inC, h0]⟩
            · rename_i h0
              exact ⟨hz, by simp [inC, h0]⟩
          · rintro acc l ha ⟨rfl, rfl⟩
            rw [List.length_map, List.take_length]
            walk_at "q"
            refine ⟨_, rfl, ?_⟩
            rw [List.all_map]
            have e : right w s nx ou size = ou.all (id ∘ inC size) := by
              unfold right
              rw [Bool.eq_iff_iff, decide_eq_true_iff]
              unfold inC at hn ⊢
              simp only [List.all_eq_true, Bool.and_eq_true, decide_eq_true_eq, Function.comp, id] at hn ⊢
              constructor
              · intro z x hx
                exact z.2.2.2.2.2.2.2 x hx
              · intro z
                exact ⟨by omega, hne, ho, by rw [hmm]; exact hm2, hs0, by omega, fun c hc => by have := hn c hc; omega, z⟩
            rw [e] at q
            exact q
        · rw [if_neg hn]
          rw [right_no fun z => hn (by
            unfold inC
            simp only [List.all_eq_true, Bool.and_eq_true, decide_eq_true_eq, Function.comp, id]
            intro x hx
            have := z.2.2.2.2.2.2.1 x hx
            omega)] at q
          exact q
  · rename_i h; rw [right_no fun z => h z.2.2.2.2.1] at q; exact q
structure Cs_law_changed (P : Program) (w : World) (K : PySem.W.Frag) (mg : Str → Option Value) (base : Heap) : Prop where
  law_take : CalQ P w K mg base 1 "_law_take" 2 fs_law_take
theorem ok_law_changed {f : Addr} {fd : FuncData} (F : Fun K "_law_changed" "_law_changed" s_law_changed f fd) (B : Bt mg) (C : Cs_law_changed P w K mg base) : FnOk P w K mg base (L2.CX P w) 2 f fd ["purse", "machine", "size"] (spQ K 3 fs_law_changed) := by
  have nd := sc_law_changed.nd
  refine fun_q (k := 1) F sc_law_changed 3 rfl (fun cdv A outer s H E hr tk => (qss_cons (qs_asg (qe_var 1) (qg_tup (n := 4) rfl (qgs_cons (qg_name (i := 3) nd rfl (by first | exact Or.inl rfl | exact Or.inr rfl)) (qgs_cons (qg_name (i := 4) nd rfl (by first | exact Or.inl rfl | exact Or.inr rfl)) (qgs_cons (qg_name (i := 5) nd rfl (by first | exact Or.inl rfl | exact Or.inr rfl)) (qgs_cons (qg_name (i := 6) nd rfl (by first | exact Or.inl rfl | exact Or.inr rfl)) qgs_nil))))))
    (qss_cons (qs_set (i := 7) nd rfl (by first | exact Or.inl rfl | exact Or.inr rfl) (qe_op op_fdiv ref_II (qe_callB call_len_seq ref_len (by rfl) B.len (by decide +kernel) (qa_cons (qe_var 5) qa_nil)) (qe_var 3)))
    (qss_cons (qs_set (i := 8) nd rfl (by first | exact Or.inl rfl | exact Or.inr rfl) (qe_call C.law_take hr (by decide) tk (by rfl) (qa_cons (qe_var 0) (qa_cons (qe_callB call_len_seq ref_len (by rfl) B.len (by decide +kernel) (qa_cons (qe_var 5) qa_nil)) qa_nil))))
    (qss_cons (qs_set (i := 9) nd rfl (by first | exact Or.inl rfl | exact Or.inr rfl) (qe_lst (f := .cell) (qa_cons (qe_tup (qa_cons qe_int (qa_cons (qe_var 4) (qa_cons (qe_var 5) (qa_cons (qe_var 6) qa_nil))))) (qa_cons (qe_tup (qa_cons (qe_un un_neg ref_U (qe_var 3)) (qa_cons (qe_var 4) (qa_cons (qe_var 5) (qa_cons (qe_var 6) qa_nil))))) (qa_cons (qe_tup (qa_cons (qe_op op_add ref_I0 (qe_var 3) qe_int) (qa_cons (qe_var 4) (qa_cons (qe_var 5) (qa_cons (qe_var 6) qa_nil))))) qa_nil)))))
    (qss_cons (qs_set (i := 9) nd rfl (by first | exact Or.inl rfl | exact Or.inr rfl) (qe_op op_cat (ref_cat (f := .cell)) (qe_var 9) (qe_lst (f := .frz) (qa_cons (qe_tup (qa_cons (qe_var 3) (qa_cons (qe_var 7) (qa_cons (qe_var 5) (qa_cons (qe_var 6) qa_nil))))) (qa_cons (qe_tup (qa_cons (qe_var 3) (qa_cons (qe_un un_neg ref_U qe_int) (qa_cons (qe_var 5) (qa_cons (qe_var 6) qa_nil))))) (qa_cons (qe_tup (qa_cons (qe_var 3) (qa_cons (qe_op op_sub ref_I0 (qe_var 7) qe_int) (qa_cons (qe_var 5) (qa_cons (qe_var 6) qa_nil))))) qa_nil))))))
    (qss_cons (qs_for (passes_of rfl) rfl (qi_tup (pi_tup (qe_tup (qa_cons (qe_un un_neg ref_U qe_int) (qa_cons (qe_var 7) (qa_cons (qe_op op_sub ref_I0 (qe_var 7) qe_int) qa_nil)))))) (qg_name (i := 10) nd rfl (by first | exact Or.inl rfl | exact Or.inr rfl)) (qss_one (qs_expr (qe_bm PySem.F.slot_list_append PySem.F.type_list_append mt_append ref_append (qe_var 9) (qa_cons (qe_tup (qa_cons (qe_var 3) (qa_cons (qe_var 4) (qa_cons (qe_op op_catA ref_catT (qe_op op_catA ref_catT (qe_sl sl_tupA ref_slT (qe_var 5) qo_none (qo_some (qe_var 8))) (qe_tup (qa_cons (qe_var 10) qa_nil))) (qe_sl sl_tupA ref_slT (qe_var 5) (qo_some (qe_op op_add ref_I0 (qe_var 8) qe_int)) qo_none)) (qa_cons (qe_var 6) qa_nil))))) qa_nil)))))
    (qss_cons (qs_for (passes_of rfl) rfl (qi_tup (pi_tup (qe_tup (qa_cons (qe_un un_neg ref_U qe_int) (qa_cons (qe_var 2) (qa_cons (qe_op op_sub ref_I0 (qe_var 2) qe_int) qa_nil)))))) (qg_name (i := 10) nd rfl (by first | exact Or.inl rfl | exact Or.inr rfl)) (qss_one (qs_expr (qe_bm PySem.F.slot_list_append PySem.F.type_list_append mt_append ref_append (qe_var 9) (qa_cons (qe_tup (qa_cons (qe_var 3) (qa_cons (qe_var 4) (qa_cons (qe_var 5) (qa_cons (qe_op op_catA ref_catT (qe_op op_catA ref_catT (qe_sl sl_tupA ref_slT (qe_var 6) qo_none (qo_some (qe_var 8))) (qe_tup (qa_cons (qe_var 10) qa_nil))) (qe_sl sl_tupA ref_slT (qe_var 6) (qo_some (qe_op op_add ref_I0 (qe_var 8) qe_int)) qo_none)) qa_nil))))) qa_nil)))))
    (qss_cons (qs_set (i := 9) nd rfl (by first | exact Or.inl rfl | exact Or.inr rfl) (qe_op op_cat (ref_cat (f := .cell)) (qe_var 9) (qe_lst (f := .frz) (qa_cons (qe_tup (qa_cons (qe_var 3) (qa_cons (qe_var 4) (qa_cons (qe_sl sl_tupA ref_slT (qe_var 5) (qo_some qe_int) qo_none) (qa_cons (qe_sl sl_tupA ref_slT (qe_var 6) (qo_some qe_int) qo_none) qa_nil))))) (qa_cons (qe_tup (qa_cons (qe_var 3) (qa_cons (qe_var 4) (qa_cons (qe_sl sl_tupA ref_slT (qe_var 5) (qo_some qe_int) qo_none) (qa_cons (qe_var 6) qa_nil))))) (qa_cons (qe_tup (qa_cons (qe_var 3) (qa_cons (qe_var 4) (qa_cons (qe_var 5) (qa_cons (qe_sl sl_tupA ref_slT (qe_var 6) (qo_some qe_int) qo_none) qa_nil))))) qa_nil))))))
    (qss_cons (qs_set (i := 11) nd rfl (by first | exact Or.inl rfl | exact Or.inr rfl) (qe_callTy call_tuple_of ref_tuple (by rfl) B.tuple (by decide +kernel) (qa_cons (qe_lc (f := .frz) (own := [("letter", 12)]) rfl nd (qi_range1 (pi_range1 (by rfl) B.range (qa_cons (qe_var 3) qa_nil))) (blkOk_by (N := N_law_changed) (sc := defScope s_law_changed) (by decide +kernel)) (fun _ _ _ _ _ => (qgv_name (i := 12) (by decide) nd rfl (by first | exact Or.inl rfl | exact Or.inr rfl))) (fun _ _ _ _ _ => qts_nil) (fun _ _ _ _ _ => qe_int)) qa_nil)))
    (qss_cons (qs_set (i := 9) nd rfl (by first | exact Or.inl rfl | exact Or.inr rfl) (qe_op op_cat (ref_cat (f := .cell)) (qe_var 9) (qe_lst (f := .frz) (qa_cons (qe_tup (qa_cons (qe_var 3) (qa_cons (qe_var 4) (qa_cons (qe_op op_catA ref_catT (qe_var 5) (qe_var 11)) (qa_cons (qe_op op_catA ref_catT (qe_var 6) (qe_var 11)) qa_nil))))) (qa_cons (qe_tup (qa_cons (qe_var 3) (qa_cons (qe_var 7) (qa_cons (qe_op op_catA ref_catT (qe_var 5) (qe_var 11)) (qa_cons (qe_op op_catA ref_catT (qe_var 6) (qe_var 11)) qa_nil))))) qa_nil)))))
    (qss_one (qs_ret (qe_op op_cat (ref_cat (f := .frz)) (qe_var 9) (qe_lst (f := .frz) (qa_cons (qe_tup (qa_cons (qe_var 3) (qa_cons (qe_var 4) (qa_cons (qe_op op_catA ref_catT (qe_var 5) (qe_tup (qa_cons qe_int qa_nil))) (qa_cons (qe_op op_catA ref_catT (qe_var 6) (qe_tup (qa_cons qe_int qa_nil))) qa_nil))))) (qa_cons (qe_tup (qa_cons (qe_var 3) (qa_cons qe_int (qa_cons (qe_tup qa_nil) (qa_cons (qe_tup qa_nil) qa_nil))))) qa_nil))))))))))))))))) (fun ds l Qd Ed hl h => ?_)
  obtain ⟨ns, w, s, nx, ou, size, rfl, rfl, hp, w1, w2, n1, n2, n3, q⟩ := h
  unfold mD at hl ⊢
  walk_at "q"
  refine ⟨⟨by omega, by omega⟩, ns, nx.length, rfl, rfl, hp, by omega, by omega, fun at_ ns1 a0 a1 hp1 => ?_⟩
  generalize (nx.length : Int) / w = many
  walk_at "q"
  refine ⟨by decide, ?_⟩
  have cut : ∀ (xs : List Int) (c : Int), xs.length ≤ 1000 → (cutD (xs.map D.int) none (some at_)).length + 1 ≤ sizeLine ∧ (cutD (xs.map D.int) none (some at_) ++ [D.int c]).length + (cutD (xs.map D.int) (some (at_ + 1)) none).length ≤ sizeLine ∧
      ∃ ys : List Int, (cutD (xs.map D.int) none (some at_) ++ [D.int c]) ++ cutD (xs.map D.int) (some (at_ + 1)) none = ys.map D.int ∧ ys.length ≤ 3000 := fun xs c h => by
    have h1 := cutD_len xs none (some at_)
    have h2 := cutD_len xs (some (at_ + 1)) none
    rw [cutD_map, cutD_map]
    refine ⟨?_, ?_, cutD xs none (some at_) ++ [c] ++ cutD xs (some (at_ + 1)) none, by simp, by simp; omega⟩
    · rw [List.length_map]; exact Nat.le_trans (by omega : _ ≤ 3000) (by decide)
    · simp only [List.length_append, List.length_map, List.length_cons, List.length_nil]; exact Nat.le_trans (by omega : _ ≤ 3000) (by decide)
  refine loopX (fun i σ l => ∃ (ts : List QL.D) (c1 : Cell) (x10 x11 x12 : Option QL.P), σ = [some (.loc 0), some (.d (mD w s nx ou)), some (.d (.int size)), some (.d (.int w)), some (.d (.int s)), some (.d (.tup (nx.map .int))), some (.d (.tup (ou.map .int))), some (.d (.int many)), some (.d (.int at_)), some (.loc 2), x10, x11, x12] ∧ l = [.lst (ns1.map .int), c1, .lst ts] ∧ (∀ t ∈ ts, Ms t) ∧ ts.length ≤ 6 + i ∧ i ≤ 3) ⟨_, _, _, _, _, rfl, rfl, ?_, by simp, by omega⟩ ?_ ?_
  · intro t ht
    simp only [List.mem_append, List.mem_cons, List.not_mem_nil, or_false] at ht
    rcases ht with rfl | rfl | rfl | rfl | rfl | rfl
    all_goals exact Ms.mk (by omega) (by omega) (by omega)
  · rintro i x σ l hx ⟨ts, c1, x10, x11, x12, rfl, rfl, ht, htl, hi⟩
    have hi := (List.getElem?_eq_some_iff.mp hx).1
    have : ∃ c, x = D.int c := by
      have := List.mem_of_getElem? hx
      simp only [List.mem_cons, List.not_mem_nil, or_false] at this
      rcases this with rfl | rfl | rfl <;> exact ⟨_, rfl⟩
    obtain ⟨c, rfl⟩ := this
    obtain ⟨z1, z2, ys, z3, z4⟩ := cut nx c (by omega)
    simp only [List.length_cons, List.length_nil] at hi
    rw [List.length_append, List.length_singleton] at z2
    walk_at "q"
    refine ⟨z1, z2, Nat.lt_of_le_of_lt (by omega : _ ≤ 100) (by decide), _, _, _, _, _, rfl, rfl, ?_, by simp; omega, by omega⟩
    intro t ht2
    rcases List.mem_append.mp ht2 with h | h
    · exact ht t h
    · rw [List.mem_singleton.mp h, z3]
      exact Ms.mk (by omega) (by omega) (by omega)
  · rintro σ l ⟨ts, c1, x10, x11, x12, rfl, rfl, ht, htl, hi⟩
    simp only [List.length_cons, List.length_nil] at htl
    walk_at "q"
    refine loopX (fun i σ l => ∃ (ts : List QL.D) (c1 : Cell) (x10 x11 x12 : Option QL.P), σ = [some (.loc 0), some (.d (mD w s nx ou)), some (.d (.int size)), some (.d (.int w)), some (.d (.int s)), some (.d (.tup (nx.map .int))), some (.d (.tup (ou.map .int))), some (.d (.int many)), some (.d (.int at_)), some (.loc 2), x10, x11, x12] ∧ l = [.lst (ns1.map .int), c1, .lst ts] ∧ (∀ t ∈ ts, Ms t) ∧ ts.length ≤ 9 + i ∧ i ≤ 3) ⟨ts, _, _, _, _, rfl, rfl, ht, by omega, by omega⟩ ?_ ?_
    · rintro i x σ l hx ⟨ts, c1, x10, x11, x12, rfl, rfl, ht, htl, hi⟩
      have hi := (List.getElem?_eq_some_iff.mp hx).1
      have : ∃ c, x = D.int c := by
        have := List.mem_of_getElem? hx
        simp only [List.mem_cons, List.not_mem_nil, or_false] at this
        rcases this with rfl | rfl | rfl <;> exact ⟨_, rfl⟩
      obtain ⟨c, rfl⟩ := this
      obtain ⟨z1, z2, ys, z3, z4⟩ := cut ou c (by omega)
      simp only [List.length_cons, List.length_nil] at hi
      rw [List.length_append, List.length_singleton] at z2
      walk_at "q"
      refine ⟨z1, z2, Nat.lt_of_le_of_lt (by omega : _ ≤ 100) (by decide), _, _, _, _, _, rfl, rfl, ?_, by simp; omega, by omega⟩
      intro t ht2
      rcases List.mem_append.mp ht2 with h | h
      · exact ht t h
      · rw [List.mem_singleton.mp h, z3]
        exact Ms.mk (by omega) (by omega) (by omega)
    · rintro σ l ⟨ts, c1, x10, x11, x12, rfl, rfl, ht, htl, hi⟩
      simp only [List.length_cons, List.length_nil] at htl
      have e1 : cutD (nx.map D.int) (some 1) none = (cutD nx (some 1) none).map D.int := cutD_map _ _ _ _
      have e2 : cutD (ou.map D.int) (some 1) none = (cutD ou (some 1) none).map D.int := cutD_map _ _ _ _
      have f1 := cutD_len nx (some 1) none
      have f2 := cutD_len ou (some 1) none
      walk_at "q"
      refine ⟨Nat.le_trans (by omega : _ ≤ 100) (by decide), ?_⟩
      refine ⟨by omega, by omega, ?_⟩
      rw [e1, e2]
      generalize cutD nx (some 1) none = nx' at *
      generalize cutD ou (some 1) none = ou' at *
      refine lcI (fun i acc l => acc = (List.replicate i (0 : Int)).map D.int ∧ l = [.lst (ns1.map .int), c1, .lst ts, .lst (ts ++ [D.tup [D.int w, D.int s, D.tup (nx'.map D.int), D.tup (ou'.map D.int)], D.tup [D.int w, D.int s, D.tup (nx'.map D.int), D.tup (ou.map D.int)], D.tup [D.int w, D.int s, D.tup (nx.map D.int), D.tup (ou'.map D.int)]])]) (by rw [rangeD_len]; exact Nat.lt_of_le_of_lt (by omega : _ ≤ 100) (by decide)) ⟨rfl, rfl⟩ ?_ ?_
      · rintro i x acc l hx ha ⟨rfl, rfl⟩
        rw [rangeD_len]
        obtain ⟨hi2, rfl⟩ := rangeD_get hx
        walk_at "q"
        refine ⟨by simp; omega, ?_⟩
        rw [List.map_replicate, ← List.replicate_succ, ← List.replicate_succ']
      · rintro acc l ha ⟨rfl, rfl⟩
        rw [rangeD_len]
        have hrl : ((List.replicate w.toNat (0 : Int)).map D.int).length ≤ 100 := by simp; omega
        generalize List.replicate w.toNat (0 : Int) = zs at *
        rw [List.length_map] at hrl
        walk_at "q"
        have sz : ∀ n : Nat, n ≤ 5000 → n ≤ sizeLine := fun n h => Nat.le_trans h (by decide)
        refine ⟨sz _ (by omega), sz _ (by omega), sz _ (by omega), sz _ (by omega), sz _ (by omega), sz _ (by omega), sz _ (by omega), sz _ (by omega), q _ _ ?_ hp1⟩
        have m1 : ∀ xs ys : List Int, xs.map D.int ++ ys.map D.int = (xs ++ ys).map D.int := fun xs ys => by simp
        have m2 : ∀ (xs : List Int) (c : Int), xs.map D.int ++ [D.int c] = (xs ++ [c]).map D.int := fun xs ys => by simp
        intro t ht2
        simp only [List.mem_append, List.mem_cons, List.not_mem_nil, or_false, m1, m2] at ht2
        rcases ht2 with ((h | rfl | rfl | rfl) | rfl | rfl) | rfl | rfl
        · exact ht t h
        all_goals first
          | exact Ms.mk (by omega) (by omega) (by omega)
          | exact Ms.mk (by simp; omega) (by simp; omega) (by omega)
          | exact Ms.mk (nx := []) (ou := []) (by simp) (by simp) (by omega)
structure Cs_law_judged (P : Program) (w : World) (K : PySem.W.Frag) (mg : Str → Option Value) (base : Heap) : Prop where
  is_machine : CalQ P w K mg base 4 "is_machine" 2 fs_is_machine
  law_right : CalQ P w K mg base 1 "_law_right" 2 fs_law_right
  law_changed : CalQ P w K mg base 2 "_law_changed" 3 fs_law_changed
theorem ok_law_judged {f : Addr} {fd : FuncData} (F : Fun K "_law_judged" "_law_judged" s_law_judged f fd) (B : Bt mg) (C : Cs_law_judged P w K mg base) : FnOk P w K mg base (L2.CX P w) 5 f fd ["purse", "machine", "size"] (spQ K 3 fs_law_judged) := by
  have nd := sc_law_judged.nd
  refine fun_q (k := 4) F sc_law_judged 3 rfl (fun cdv A outer s H E hr tk => (qss_cons (qs_for (passes_of rfl) rfl (qi_range1 (pi_range1 (by rfl) B.range (qa_cons (qe_op op_add ref_I0 (qe_var 2) qe_int) qa_nil))) (qg_name (i := 3) nd rfl (by first | exact Or.inl rfl | exact Or.inr rfl)) (qss_cons (qs_set (i := 4) nd rfl (by first | exact Or.inl rfl | exact Or.inr rfl) (qe_call C.is_machine hr (by decide) tk (by rfl) (qa_cons (qe_var 1) (qa_cons (qe_var 3) qa_nil))))
    (qss_one (qs_if (QW.qt (qw_or (qt_not (qt_val (qe_callB call_isi ref_isi (by rfl) B.isinstance (by decide +kernel) (qa_cons (qe_var 4) (qa_cons (qe_type (n := "bool") (by rfl) B.bool (by decide +kernel)) qa_nil))))) (qw_or1 (qt_cmp (op_neD hr.units) ref_ne (qe_var 4) (qe_call C.law_right hr (by decide) tk (by rfl) (qa_cons (qe_var 1) (qa_cons (qe_var 3) qa_nil))) (nomark _))))) (qss_one (qs_ret qe_bl)) qss_nil))))
    (qss_cons (qs_for (passes_of rfl) rfl (qi_lst (qe_call C.law_changed hr (by decide) tk (by rfl) (qa_cons (qe_var 0) (qa_cons (qe_var 1) (qa_cons (qe_var 2) qa_nil))))) (qg_name (i := 5) nd rfl (by first | exact Or.inl rfl | exact Or.inr rfl)) (qss_cons (qs_set (i := 4) nd rfl (by first | exact Or.inl rfl | exact Or.inr rfl) (qe_call C.is_machine hr (by decide) tk (by rfl) (qa_cons (qe_var 5) (qa_cons (qe_var 2) qa_nil))))
    (qss_one (qs_if (QW.qt (qw_or (qt_not (qt_val (qe_callB call_isi ref_isi (by rfl) B.isinstance (by decide +kernel) (qa_cons (qe_var 4) (qa_cons (qe_type (n := "bool") (by rfl) B.bool (by decide +kernel)) qa_nil))))) (qw_or1 (qt_cmp (op_neD hr.units) ref_ne (qe_var 4) (qe_call C.law_right hr (by decide) tk (by rfl) (qa_cons (qe_var 5) (qa_cons (qe_var 2) qa_nil))) (nomark _))))) (qss_one (qs_ret qe_bl)) qss_nil))))
    (qss_one (qs_ret qe_bl))))) (fun ds l Qd Ed hl h => ?_)
  obtain ⟨ns, w, s, nx, ou, size, rfl, rfl, hp, w1, w2, n1, n2, n3, s9, q⟩ := h
  walk_at "q"
  refine ⟨by omega, by omega, ?_⟩
  refine loopR (fun i σ l => ∃ x3 x4 x5, σ = [some (.loc 0), some (.d (mD w s nx ou)), some (.d (.int size)), x3, x4, x5] ∧ l = [.lst (ns.map .int)]) ⟨_, _, _, rfl, rfl⟩ ?_ ?_
  · rintro i σ l hi ⟨x3, x4, x5, rfl, rfl⟩
    walk_at "q"
    refine ⟨w, s, nx, ou, _, rfl, rfl, by omega, by omega, ?_⟩
    walk_at "q"
    rw [show isT "bool" "bool" = some true from rfl]
    walk_at "q"
    refine ⟨w, s, nx, ou, _, rfl, rfl, by omega, by omega, by omega, ?_⟩
    walk_at "q"
    refine ⟨dOk_bl.mpr trivial, dOk_bl.mpr trivial, ?_⟩
    rw [D.eqv_bl, beq_self_eq_true, if_neg (by decide)]
    exact ⟨_, _, _, rfl⟩
  · rintro σ l ⟨x3, x4, x5, rfl, rfl⟩
    walk_at "q"
    refine ⟨ns, w, s, nx, ou, size, rfl, rfl, hp, w1, w2, n1, n2, n3, fun ts ns1 ht hp1 => ?_⟩
    walk_at "q"
    refine loopX (fun i σ l => ∃ x3 x4 x5, σ = [some (.loc 0), some (.d (mD w s nx ou)), some (.d (.int size)), x3, x4, x5] ∧ l = [.lst (ns1.map .int)]) ⟨_, _, _, rfl, rfl⟩ ?_ ?_
    · rintro i x σ l hx ⟨x3, x4, x5, rfl, rfl⟩
      obtain ⟨w', s', nx', ou', rfl, h1, h2, h3⟩ := ht x (List.mem_of_getElem? hx)
      walk_at "q"
      refine ⟨w', s', nx', ou', size, rfl, rfl, h1, h2, ?_⟩
      walk_at "q"
      rw [show isT "bool" "bool" = some true from rfl]
      walk_at "q"
      refine ⟨w', s', nx', ou', size, rfl, rfl, h1, h2, h3, ?_⟩
      walk_at "q"
      refine ⟨dOk_bl.mpr trivial, dOk_bl.mpr trivial, ?_⟩
      rw [D.eqv_bl, beq_self_eq_true, if_neg (by decide)]
      exact ⟨_, _, _, rfl⟩
    · rintro σ l ⟨x3, x4, x5, rfl, rfl⟩
      walk_at "q"
      exact q _ hp1
theorem ok_law_rows {f : Addr} {fd : FuncData} (F : Fun K "_law_rows" "_law_rows" s_law_rows f fd) (B : Bt mg) : FnOk P w K mg base (L2.CX P w) 1 f fd ["sizes"] (spQ K 1 fs_law_rows) := by
  have nd := sc_law_rows.nd
  refine fun_q (k := 0) F sc_law_rows 1 rfl (fun cdv A outer s H E hr tk => (qss_cons (qs_set (i := 1) nd rfl (by first | exact Or.inl rfl | exact Or.inr rfl) (qe_lst (f := .frz) (qa_cons (qe_tup qa_nil) qa_nil)))
    (qss_cons (qs_for (passes_of rfl) rfl (qi_tup (pi_tup (qe_var 0))) (qg_name (i := 2) nd rfl (by first | exact Or.inl rfl | exact Or.inr rfl)) (qss_cons (qs_set (i := 3) nd rfl (by first | exact Or.inl rfl | exact Or.inr rfl) (qe_lst (f := .frz) qa_nil))
    (qss_cons (qs_for (passes_of rfl) rfl (qi_lst (qe_var 1)) (qg_name (i := 4) nd rfl (by first | exact Or.inl rfl | exact Or.inr rfl)) (qss_one (qs_set (i := 3) nd rfl (by first | exact Or.inl rfl | exact Or.inr rfl) (qe_op op_cat (ref_cat (f := .frz)) (qe_var 3) (qe_lc (f := .frz) (own := [("value", 5)]) rfl nd (qi_range1 (pi_range1 (by rfl) B.range (qa_cons (qe_var 2) qa_nil))) (blkOk_by (N := N_law_rows) (sc := defScope s_law_rows) (by decide +kernel)) (fun _ _ _ _ _ => (qgv_name (i := 5) (by decide) nd rfl (by first | exact Or.inl rfl | exact Or.inr rfl))) (fun _ _ _ _ _ => qts_nil) (fun _ _ _ _ _ => (qe_op op_catA ref_catT (qe_var 4) (qe_tup (qa_cons (qe_var 5) qa_nil)))))))))
    (qss_one (qs_set (i := 1) nd rfl (by first | exact Or.inl rfl | exact Or.inr rfl) (qe_var 3))))))
    (qss_one (qs_ret (qe_var 1)))))) (fun ds l Qd Ed hl h => ?_)
  obtain ⟨sz, rfl, rfl, hs, hz, hr, q⟩ := h
  walk_at "q"
  refine loopX (fun i σ l => ∃ x2 x3 x4 x5, σ = [some (.d (.tup (natsD sz))), some (.d (.lst (rowsD (rowsN (sz.take i))))), x2, x3, x4, x5] ∧ l = []) ⟨_, _, _, _, rfl, rfl⟩ ?_ ?_
  · rintro i x σ l hx ⟨x2, x3, x4, x5, rfl, rfl⟩
    obtain ⟨z, hn, rfl⟩ := natsD_get hx
    have hi := (List.getElem?_eq_some_iff.mp hn).1
    have hzz := hz z (List.mem_of_getElem? hn)
    have hr1 := hr (i + 1) hi
    rw [rowsN_take hn]
    rw [rowsN_take hn] at hr1
    have hrl : ∀ r ∈ rowsN (sz.take i), r.length ≤ 10 := fun r h => by rw [rowsN_len h, List.length_take]; omega
    generalize rowsN (sz.take i) = rows at *
    walk_at "q"
    refine loopX (fun k σ l => ∃ x4 x5, σ = [some (.d (.tup (natsD sz))), some (.d (.lst (rowsD rows))), some (.d (.int z)), some (.d (.lst (rowsD ((rows.take k).flatMap fun r => (List.range z).map fun v => r ++ [v])))), x4, x5] ∧ l = []) ⟨_, _, rfl, rfl⟩ ?_ ?_
    · rintro k y σ l hy ⟨x4, x5, rfl, rfl⟩
      obtain ⟨r, hr2, rfl⟩ := rowsD_get hy
      have hk := (List.getElem?_eq_some_iff.mp hr2).1
      have hrlen := hrl r (List.mem_of_getElem? hr2)
      have hfl : ((rows.take k).flatMap fun r => (List.range z).map fun v => r ++ [v]).length ≤ 100 := by
        rw [flat_len, List.length_take]
        rw [flat_len] at hr1
        exact Nat.le_trans (Nat.mul_le_mul_right z (by omega)) hr1
      rw [flat_snoc hr2]
      generalize ((rows.take k).flatMap fun r => (List.range z).map fun v => r ++ [v]) = F at *
      walk_at "q"
      refine ⟨by omega, by omega, ?_⟩
      refine lcI (fun u acc l => acc = rowsD ((List.range u).map fun v => r ++ [v]) ∧ l = []) (by rw [rangeD_len]; exact Nat.lt_of_le_of_lt (by omega : _ ≤ 100) (by decide)) ⟨rfl, rfl⟩ ?_ ?_
      · rintro u x acc l hx ha ⟨rfl, rfl⟩
        obtain ⟨hu, rfl⟩ := rangeD_get hx
        walk_at "q"
        refine ⟨by rw [natsD_len]; exact Nat.le_trans (by omega : _ ≤ 100) (by decide), ⟨by rw [ha], by omega⟩, ?_⟩
        rw [List.range_succ, List.map_append, rowsD_app]
        simp [rowsD, natsD]
      · rintro acc l ha ⟨rfl, rfl⟩
        have hr9 : (rowsD F).length + (rowsD (List.map (fun v => r ++ [v]) (List.range (z : Int).toNat))).length ≤ 200 := by simp [rowsD]; omega
        walk_at "q"
        refine ⟨Nat.le_trans hr9 (by decide), ?_⟩
        rw [rowsD_app, show (z : Int).toNat = z from by simp]
        exact ⟨_, _, rfl⟩
    · rintro σ l ⟨x4, x5, rfl, rfl⟩
      rw [show (rowsD rows).length = rows.length by simp [rowsD], List.take_length]
      walk_at "q"
      exact ⟨_, _, _, _, rfl⟩
  · rintro σ l ⟨x2, x3, x4, x5, rfl, rfl⟩
    rw [natsD_len, List.take_length]
    walk_at "q"
    exact q
structure Cs_law_numbers (P : Program) (w : World) (K : PySem.W.Frag) (mg : Str → Option Value) (base : Heap) : Prop where
  law_rows : CalQ P w K mg base 1 "_law_rows" 1 fs_law_rows
theorem ok_law_numbers {f : Addr} {fd : FuncData} (F : Fun K "_law_numbers" "_law_numbers" s_law_numbers f fd) (B : Bt mg) (C : Cs_law_numbers P w K mg base) : FnOk P w K mg base (L2.CX P w) 2 f fd ["sizes"] (spQ K 1 fs_law_numbers) := by
  have nd := sc_law_numbers.nd
  refine fun_q (k := 1) F sc_law_numbers 1 rfl (fun cdv A outer s H E hr tk => (qss_cons (qs_set (i := 1) nd rfl (by first | exact Or.inl rfl | exact Or.inr rfl) qe_newT)
    (qss_cons (qs_for (passes_of rfl) rfl (qi_lst (qe_call C.law_rows hr (by decide) tk (by rfl) (qa_cons (qe_var 0) qa_nil))) (qg_name (i := 2) nd rfl (by first | exact Or.inl rfl | exact Or.inr rfl)) (qss_one (qs_asg (qe_callB call_lenDc ref_lenDc (by rfl) B.len (by decide +kernel) (qa_cons (qe_var 1) qa_nil)) (qg_subD (W := W0) hr.u1 (qe_var 1) (qe_var 2)))))
    (qss_one (qs_ret (qe_var 1)))))) (fun ds l Qd Ed hl h => ?_)
  obtain ⟨sz, rfl, rfl, hs, hz, hr, q⟩ := h
  have hn := rowsN_nodup sz
  have hl9 := hr sz.length (Nat.le_refl _)
  rw [List.take_length] at hl9
  walk_at "q"
  refine ⟨sz, rfl, rfl, hs, hz, hr, ?_⟩
  generalize rowsN sz = rows at *
  walk_at "q"
  refine loopX (fun i σ l => ∃ x2, σ = [some (.d (.tup (natsD sz))), some (.loc 0), x2] ∧ l = [.dt (plD (rows.take i))]) ⟨_, rfl, rfl⟩ ?_ ?_
  · rintro i x σ l hx ⟨x2, rfl, rfl⟩
    obtain ⟨r, hr2, rfl⟩ := rowsD_get hx
    have hi := (List.getElem?_eq_some_iff.mp hr2).1
    have hni : r ∉ rows.take i := by
      intro hm
      have hd := hn
      rw [← List.take_append_drop i rows, List.nodup_append] at hd
      exact hd.2.2 r hm r (List.mem_of_getElem? (i := 0) (by rw [List.getElem?_drop]; exact hr2)) rfl
    have hlt : (rows.take i).length = i := by rw [List.length_take]; omega
    rw [List.take_add_one, hr2, Option.toList_some, ← putD_plD hni, hlt]
    generalize hW : rows.take i = W at *
    walk_at "q"
    simp only [keyL_nats, plD_len, hlt, Option.map_some]
    refine ⟨Nat.lt_of_le_of_lt (by omega : _ ≤ 100) (by decide), _, rfl, _, rfl, rfl⟩
  · rintro σ l ⟨x2, rfl, rfl⟩
    rw [show (rowsD rows).length = rows.length by simp [rowsD], List.take_length]
    walk_at "q"
    exact q
theorem ok_law_behind {f : Addr} {fd : FuncData} (F : Fun K "_law_behind" "_law_behind" s_law_behind f fd) (B : Bt mg) : FnOk P w K mg base (L2.CX P w) 1 f fd ["outer", "inners", "numbers", "state", "letter"] (spQ K 5 fs_law_behind) := by
  have nd := sc_law_behind.nd
  refine fun_q (k := 0) F sc_law_behind 5 rfl (fun cdv A outer s H E hr tk => (qss_cons (qs_set (i := 5) nd rfl (by first | exact Or.inl rfl | exact Or.inr rfl) (qe_tup qa_nil))
    (qss_cons (qs_set (i := 6) nd rfl (by first | exact Or.inl rfl | exact Or.inr rfl) (qe_tup qa_nil))
    (qss_cons (qs_for (passes_of rfl) rfl (qi_range1 (pi_range1 (by rfl) B.range (qa_cons (qe_callB call_len_seq ref_len (by rfl) B.len (by decide +kernel) (qa_cons (qe_var 1) qa_nil)) qa_nil))) (qg_name (i := 7) nd rfl (by first | exact Or.inl rfl | exact Or.inr rfl)) (qss_cons (qs_asg (qe_ix (qe_var 1) (qe_var 7) (fun _ _ => rfl)) (qg_tup (n := 4) rfl (qgs_cons (qg_name (i := 8) nd rfl (by first | exact Or.inl rfl | exact Or.inr rfl)) (qgs_cons (qg_name (i := 9) nd rfl (by first | exact Or.inl rfl | exact Or.inr rfl)) (qgs_cons (qg_name (i := 10) nd rfl (by first | exact Or.inl rfl | exact Or.inr rfl)) (qgs_cons (qg_name (i := 11) nd rfl (by first | exact Or.inl rfl | exact Or.inr rfl)) qgs_nil))))))
    (qss_cons (qs_set (i := 12) nd rfl (by first | exact Or.inl rfl | exact Or.inr rfl) (qe_op op_add ref_I0 (qe_op op_mulW ref_II (qe_ix (qe_var 3) (qe_op op_add ref_I0 (qe_var 7) qe_int) (fun _ _ => rfl)) (qe_var 8)) (qe_var 4)))
    (qss_cons (qs_set (i := 5) nd rfl (by first | exact Or.inl rfl | exact Or.inr rfl) (qe_op op_catA ref_catT (qe_var 5) (qe_tup (qa_cons (qe_ix (qe_var 11) (qe_var 12) (fun _ _ => rfl)) qa_nil))))
    (qss_one (qs_set (i := 6) nd rfl (by first | exact Or.inl rfl | exact Or.inr rfl) (qe_op op_catA ref_catT (qe_var 6) (qe_tup (qa_cons (qe_ix (qe_var 10) (qe_var 12) (fun _ _ => rfl)) qa_nil)))))))))
    (qss_cons (qs_set (i := 12) nd rfl (by first | exact Or.inl rfl | exact Or.inr rfl) (qe_op op_add ref_I0 (qe_op op_mulW ref_II (qe_ix (qe_var 3) qe_int (fun _ _ => rfl)) (qe_ix (qe_var 0) qe_int (fun _ _ => rfl))) (qe_dget hr.u1 (qe_var 2) (qe_var 5) (fun _ _ => rfl))))
    (qss_one (qs_ret (qe_tup (qa_cons (qe_ix (qe_ix (qe_var 0) qe_int (fun _ _ => rfl)) (qe_var 12) (fun _ _ => rfl)) (qa_cons (qe_op op_catA ref_catT (qe_tup (qa_cons (qe_ix (qe_ix (qe_var 0) qe_int (fun _ _ => rfl)) (qe_var 12) (fun _ _ => rfl)) qa_nil)) (qe_var 6)) qa_nil)))))))))) (fun ds l Qd Ed hl h => ?_)
  obtain ⟨o, inn, sz, w, s0, st, x, rfl, rfl, F, h0, hsl, hst, hx, q⟩ := h
  have hn3 := F.n3
  have hw1 := F.w1
  have hw2 := F.w2
  unfold mcD at hl ⊢
  walk_at "q"
  refine ⟨by omega, by omega, ?_⟩
  refine loopR (fun i σ l => ∃ x7 x8 x9 x10 x11 x12, σ = [some (.d (mcD o)), some (.d (.tup (inn.map mcD))), some (.loc 0), some (.d (.tup (natsD (s0 :: st)))), some (.d (.int x)), some (.d (.tup (natsD (valsN inn st x i)))), some (.d (.tup (natsD (behN inn st x i)))), x7, x8, x9, x10, x11, x12] ∧ l = [.dt (plD (rowsN sz))]) ⟨_, _, _, _, _, _, rfl, rfl⟩ ?_ ?_
  · rintro i σ l hi ⟨x7, x8, x9, x10, x11, x12, rfl, rfl⟩
    have hi : i < inn.length := by omega
    have hm := List.getElem?_eq_getElem hi
    have hg : inn.getD i ⟨0, 0, 0, [], []⟩ = inn[i] := by simp [List.getD, hi]
    have hmem := F.ins _ (List.getElem_mem hi)
    have hsi := hst i hi
    have hvl : (valsN inn st x i).length = i := by simp [valsN]
    have hbl : (behN inn st x i).length = i := by simp [behN]
    have hvs : valsN inn st x (i + 1) = valsN inn st x i ++ [inn[i].out (st.getD i 0) x] := by rw [← hg]; simp [valsN, List.range_succ]
    have hbs : behN inn st x (i + 1) = behN inn st x i ++ [inn[i].st (st.getD i 0) x] := by rw [← hg]; simp [behN, List.range_succ]
    rw [hg] at hsi
    rw [hvs, hbs]
    generalize inn[i] = m at *
    generalize behN inn st x i = B at *
    generalize valsN inn st x i = A at *
    have hxm : x < m.w := by rw [hmem.2]; exact hx
    have hc := cell_lt hsi hxm
    have e : ((st.getD i 0 : Nat) : Int) * (m.w : Int) + (x : Int) = ((st.getD i 0 * m.w + x : Nat) : Int) := by simp
    have h1 : st.getD i 0 * m.w + x < m.ou.length := by rw [hmem.1.2.2.1]; exact hc
    have h2 : st.getD i 0 * m.w + x < m.nx.length := by rw [hmem.1.2.1]; exact hc
    have hmo := hmem.1.2.2.2.2.2
    walk_at "q"
    refine ⟨_, atI_m rfl hm, ?_⟩
    unfold mcD
    walk_at "q"
    refine ⟨_, atI_nat (k := i + 1) (by omega) (by simp; omega), ?_⟩
    walk_at "q"
    rw [show (s0 :: st).getD (i + 1) 0 = st.getD i 0 by simp [List.getD]]
    refine ⟨mulW_nat (by omega) (by omega), ?_⟩
    rw [e]
    refine ⟨_, atI_nat rfl h1, ?_⟩
    rw [natsD_len, natsD_len, hvl, hbl]
    refine ⟨Nat.le_trans (by omega : _ ≤ 100) (by decide), _, atI_nat rfl h2, ?_⟩
    refine ⟨Nat.le_trans (by omega : _ ≤ 100) (by decide), ?_⟩
    rw [natsD_app, natsD_app]
    exact ⟨_, _, _, _, _, _, rfl⟩
  · rintro σ l ⟨x7, x8, x9, x10, x11, x12, rfl, rfl⟩
    have hbl : (behN inn st x inn.length).length = inn.length := by simp [behN]
    have hri := row_idx F hx hst
    have hrw : rowN inn sz st x inn.length < o.w := Nat.lt_of_lt_of_le hri.2.2 F.rows
    have hc := cell_lt h0 hrw
    have hmo := F.ok.2.2.2.2.2
    have ew : fJ o inn sz (s0 :: st) x = (o.out s0 (rowN inn sz st x inn.length), o.st s0 (rowN inn sz st x inn.length) :: behN inn st x inn.length) := rfl
    rw [ew] at q
    rw [show ((inn.length : Int)).toNat = inn.length from by simp]
    have hv := valD_plD (W := rowsN sz) (s := valsN inn st x inn.length)
    rw [if_pos hri.2.1, hri.1] at hv
    have hk2 := keyL_nats (valsN inn st x inn.length)
    unfold kN at hv
    generalize behN inn st x inn.length = B at *
    generalize valsN inn st x inn.length = A at *
    generalize rowN inn sz st x inn.length = R at *
    have e : (s0 : Int) * (o.w : Int) + (R : Int) = ((s0 * o.w + R : Nat) : Int) := by simp
    have h1 : s0 * o.w + R < o.ou.length := by rw [F.ok.2.2.1]; exact hc
    have h2 : s0 * o.w + R < o.nx.length := by rw [F.ok.2.1]; exact hc
    walk_at "q"
    refine ⟨_, atI_nat (k := 0) rfl (by simp), ?_⟩
    unfold mcD
    walk_at "q"
    refine ⟨mulW_nat (by omega) (by omega), _, by rw [hk2, Option.map_some, hv], ?_⟩
    walk_at "q"
    rw [e]
    refine ⟨_, rfl, ?_⟩
    walk_at "q"
    refine ⟨_, atI_nat rfl h1, _, rfl, ?_⟩
    walk_at "q"
    refine ⟨_, atI_nat rfl h2, by rw [natsD_len, hbl]; exact Nat.le_trans (by omega : _ ≤ 100) (by decide), ?_⟩
    exact q
structure Cs_law_join (P : Program) (w : World) (K : PySem.W.Frag) (mg : Str → Option Value) (base : Heap) : Prop where
  law_numbers : CalQ P w K mg base 2 "_law_numbers" 1 fs_law_numbers
  law_behind : CalQ P w K mg base 1 "_law_behind" 5 fs_law_behind
theorem ok_law_join {f : Addr} {fd : FuncData} (F : Fun K "_law_join" "_law_join" s_law_join f fd) (B : Bt mg) (C : Cs_law_join P w K mg base) : FnOk P w K mg base (L2.CX P w) 3 f fd ["outer", "inners", "sizes", "width"] (spQ K 4 fs_law_join) := by
  have nd := sc_law_join.nd
  refine fun_q (k := 2) F sc_law_join 4 rfl (fun cdv A outer s H E hr tk => (qss_cons (qs_set (i := 4) nd rfl (by first | exact Or.inl rfl | exact Or.inr rfl) (qe_call C.law_numbers hr (by decide) tk (by rfl) (qa_cons (qe_var 2) qa_nil)))
    (qss_cons (qs_set (i := 5) nd rfl (by first | exact Or.inl rfl | exact Or.inr rfl) (qe_op op_catA ref_catT (qe_tup (qa_cons (qe_ix (qe_var 0) qe_int (fun _ _ => rfl)) qa_nil)) (qe_callTy call_tuple_of ref_tuple (by rfl) B.tuple (by decide +kernel) (qa_cons (qe_lc (f := .frz) (own := [("inner", 6)]) rfl nd (qi_tup (pi_tup (qe_var 1))) (blkOk_by (N := N_law_join) (sc := defScope s_law_join) (by decide +kernel)) (fun _ _ _ _ _ => (qgv_name (i := 6) (by decide) nd rfl (by first | exact Or.inl rfl | exact Or.inr rfl))) (fun _ _ _ _ _ => qts_nil) (fun _ _ _ _ _ => (qe_ix (qe_var 6) qe_int (fun _ _ => rfl)))) qa_nil))))
    (qss_cons (qs_set (i := 7) nd rfl (by first | exact Or.inl rfl | exact Or.inr rfl) (qe_dispT hr.u1 (qe_var 5) qe_int))
    (qss_cons (qs_set (i := 8) nd rfl (by first | exact Or.inl rfl | exact Or.inr rfl) (qe_lst (f := .cell) (qa_cons (qe_var 5) qa_nil)))
    (qss_cons (qs_set (i := 9) nd rfl (by first | exact Or.inl rfl | exact Or.inr rfl) (qe_lst (f := .cell) qa_nil))
    (qss_cons (qs_set (i := 10) nd rfl (by first | exact Or.inl rfl | exact Or.inr rfl) (qe_lst (f := .cell) qa_nil))
    (qss_cons (qs_set (i := 11) nd rfl (by first | exact Or.inl rfl | exact Or.inr rfl) qe_int)
    (qss_cons (qs_while (passes_of rfl) (qt_cmp (op_lt) ref_B0 (qe_var 11) (qe_callB call_len_seq ref_len (by rfl) B.len (by decide +kernel) (qa_cons (qe_var 8) qa_nil)) (nomark _)) (qss_cons (qs_for (passes_of rfl) rfl (qi_range1 (pi_range1 (by rfl) B.range (qa_cons (qe_var 3) qa_nil))) (qg_name (i := 12) nd rfl (by first | exact Or.inl rfl | exact Or.inr rfl)) (qss_cons (qs_asg (qe_call C.law_behind hr (by decide) tk (by rfl) (qa_cons (qe_var 0) (qa_cons (qe_var 1) (qa_cons (qe_var 4) (qa_cons (qe_ix (qe_var 8) (qe_var 11) (fun _ _ => rfl)) (qa_cons (qe_var 12) qa_nil)))))) (qg_tup (n := 2) rfl (qgs_cons (qg_name (i := 13) nd rfl (by first | exact Or.inl rfl | exact Or.inr rfl)) (qgs_cons (qg_name (i := 14) nd rfl (by first | exact Or.inl rfl | exact Or.inr rfl)) qgs_nil))))
    (qss_cons (qs_if (qt_cmp (op_dnotin hr.u1) ref_din (qe_var 14) (qe_var 7) (by rfl)) (qss_cons (qs_if (qt_cmp (op_eqD hr.units) ref_eq (qe_callB call_len_seq ref_len (by rfl) B.len (by decide +kernel) (qa_cons (qe_var 8) qa_nil)) qe_int (nomark _)) (qss_one (qs_ret qe_non)) qss_nil)
    (qss_cons (qs_asg (qe_callB call_len_seq ref_len (by rfl) B.len (by decide +kernel) (qa_cons (qe_var 8) qa_nil)) (qg_subD (W := W0) hr.u1 (qe_var 7) (qe_var 14)))
    (qss_one (qs_expr (qe_bm PySem.F.slot_list_append PySem.F.type_list_append mt_append ref_append (qe_var 8) (qa_cons (qe_var 14) qa_nil)))))) qss_nil)
    (qss_cons (qs_expr (qe_bm PySem.F.slot_list_append PySem.F.type_list_append mt_append ref_append (qe_var 9) (qa_cons (qe_dget hr.u1 (qe_var 7) (qe_var 14) (fun _ _ => rfl)) qa_nil)))
    (qss_one (qs_expr (qe_bm PySem.F.slot_list_append PySem.F.type_list_append mt_append ref_append (qe_var 10) (qa_cons (qe_var 13) qa_nil))))))))
    (qss_one (qs_set (i := 11) nd rfl (by first | exact Or.inl rfl | exact Or.inr rfl) (qe_op op_add ref_I0 (qe_var 11) qe_int)))))
    (qss_one (qs_ret (qe_tup (qa_cons (qe_var 3) (qa_cons qe_int (qa_cons (qe_callTy call_tuple_of ref_tuple (by rfl) B.tuple (by decide +kernel) (qa_cons (qe_var 9) qa_nil)) (qa_cons (qe_callTy call_tuple_of ref_tuple (by rfl) B.tuple (by decide +kernel) (qa_cons (qe_var 10) qa_nil)) qa_nil)))))))))))))))) (fun ds l Qd Ed hl h => ?_)
  obtain ⟨o, inn, sz, w, rfl, rfl, F, q0⟩ := h
  have q : ∀ J, joinJ (fJ o inn sz) w (startN o inn) = some J → Qd (.d (mcD (jm w J))) [] := fun J hJ => by
    unfold dueD at q0
    rw [hJ] at q0
    exact q0
  have qx : joinJ (fJ o inn sz) w (startN o inn) = none → Qd (.d .non) [] := fun hJ => by
    unfold dueD at q0
    rw [hJ] at q0
    exact q0
  clear q0
  walk_at "q"
  refine ⟨sz, rfl, rfl, by have := F.szl; have := F.n3; omega, fun z hz => by have := F.szs z hz; omega, rows_le' (fun z hz => (F.szs z hz).1) (Nat.le_trans F.rows F.ok.2.2.2.2.2.1), ?_⟩
  unfold mcD at hl ⊢
  walk_at "q"
  have hn3 := F.n3
  have hw1 := F.w1
  have hw2 := F.w2
  refine lcI (fun i acc l => acc = natsD ((inn.take i).map (·.s)) ∧ l = [.dt (plD (rowsN sz))]) (by rw [List.length_map]; exact Nat.lt_of_le_of_lt hn3 (by decide)) ⟨rfl, rfl⟩ ?_ ?_
  · rintro i x acc l hx ha ⟨rfl, rfl⟩
    rw [List.getElem?_map] at hx
    obtain ⟨m, hm, rfl⟩ := Option.map_eq_some_iff.mp hx
    have hi := (List.getElem?_eq_some_iff.mp hm).1
    walk_at "q"
    refine ⟨⟨by simp [natsD]; omega, by omega⟩, ?_⟩
    rw [List.take_add_one, hm]
    simp [natsD]
  · rintro acc l ha ⟨rfl, rfl⟩
    rw [List.length_map, List.take_length]
    walk_at "q"
    refine ⟨by simp [natsD]; exact Nat.le_trans (by omega : _ ≤ 100) (by decide), ?_⟩
    rw [show D.int (o.s : Int) :: natsD (inn.map (·.s)) = natsD (startN o inn) from rfl]
    have hk := keyL_nats (startN o inn)
    simp only [hk, Option.map_some]
    walk_at "q"
    refine whileI (fun σ l => ∃ (t : Nat) (J : JS) (x5 x11 x12 x13 : Option QL.P), σ = [some (.d (mcD o)), some (.d (.tup (inn.map mcD))), some (.d (.tup (natsD sz))), some (.d (.int w)), some (.loc 0), some (.d (.tup (natsD (startN o inn)))), x5, some (.loc 1), some (.loc 2), some (.loc 3), some (.loc 4), some (.d (.int t)), x11, x12, x13] ∧ l = [.dt (plD (rowsN sz)), .dt (plD J.W), .lst (rowsD J.W), .lst (natsD J.nx), .lst (natsD J.ou)] ∧
      JInv (fJ o inn sz) w t (startN o inn) J ∧ (∀ y ∈ J.W, okSt o inn y) ∧ runJ (fJ o inn sz) w (401 - t) t J = joinJ (fJ o inn sz) w (startN o inn)) (fun (σ : SS) (_ : LS) => match σ[11]? with
        | some (some (QL.P.d (QL.D.int t))) => 401 - t.toNat
        | _ => 0) ⟨0, startJ (startN o inn), _, _, _, _, rfl, rfl, JInv.start _ _ _, by simpa [startJ] using okSt_start F, rfl⟩ ?_
    rintro σ l ⟨t, J, x5, x11, x12, x13, rfl, rfl, I, ok, hr⟩
    have hlen := I.len
    have hrd : (rowsD J.W).length = J.W.length := by simp [rowsD]
    walk_at "q"
    rw [hrd]
    split
    · rename_i h0
      have ht : t < J.W.length := by omega
      obtain ⟨s0, st, es, hs0, hsl, hst⟩ := ok _ (getD_mem (d := []) ht)
      have hsg : J.W[t]? = some (J.W.getD t []) := by simp [List.getD, ht]
      rw [show 401 - t = (401 - (t + 1)) + 1 by omega] at hr
      unfold runJ at hr
      rw [if_pos ht] at hr
      have hstep := fun J' => JInv.step (J' := J') I ht
      refine ⟨by omega, by omega, ?_⟩
      refine loopR (fun i σ l => ∃ (J1 : JS) (x5 x11 x12 x13 : Option QL.P), σ = [some (.d (mcD o)), some (.d (.tup (inn.map mcD))), some (.d (.tup (natsD sz))), some (.d (.int w)), some (.loc 0), some (.d (.tup (natsD (startN o inn)))), x5, some (.loc 1), some (.loc 2), some (.loc 3), some (.loc 4), some (.d (.int t)), x11, x12, x13] ∧ l = [.dt (plD (rowsN sz)), .dt (plD J1.W), .lst (rowsD J1.W), .lst (natsD J1.nx), .lst (natsD J1.ou)] ∧
        rowJ (fJ o inn sz) (J.W.getD t []) ((List.range w).take i) J = some J1) ⟨J, _, _, _, _, rfl, rfl, rfl⟩ ?_ ?_
      · rintro i σ l hi ⟨J1, y5, y11, y12, y13, rfl, rfl, hj⟩
        have hi : i < w := by simpa using hi
        have a := rowJ_ok hj
        have hok1 := rowJ_all (okSt_next F) (fun x hx => List.mem_range.mp (List.mem_of_mem_take hx)) (ok _ (getD_mem (d := []) ht)) ok hj
        have hl1 := a.len hlen
        obtain ⟨E, hE⟩ := a.pre
        have hs1 : J1.W[t]? = some (J.W.getD t []) := by rw [hE, List.getElem?_append_left ht]; exact hsg
        have hti : t * w + i ≤ 400 * 24 := Nat.le_trans (Nat.le_of_lt (cell_lt ht hi)) (Nat.mul_le_mul hlen hw2)
        have hnl : J1.nx.length ≤ 9600 := by
          rw [a.nx, I.nx, List.length_append, flat_const_len (fun s x => J.W.idxOf (fJ o inn sz s x).2) w, List.length_take]
          simp
          rw [Nat.min_eq_left (Nat.le_of_lt ht), Nat.min_eq_left (Nat.le_of_lt hi)]
          exact hti
        have hol : J1.ou.length ≤ 9600 := by
          rw [a.ou, I.ou, List.length_append, flat_const_len (fun s x => (fJ o inn sz s x).1) w, List.length_take]
          simp
          rw [Nat.min_eq_left (Nat.le_of_lt ht), Nat.min_eq_left (Nat.le_of_lt hi)]
          exact hti
        have hr2 : (rowsD J1.W)[t]? = some (.tup (natsD (J.W.getD t []))) := by unfold rowsD; rw [List.getElem?_map, hs1]; rfl
        have hnext := rowJ_snoc (f := fJ o inn sz) (s := J.W.getD t []) (x := i) (xs := (List.range w).take i) (J := J)
        rw [← range_take hi, hj] at hnext
        have hri := row_idx F hi hst
        have hsm := rowN_small F hi hst
        have ew : fJ o inn sz (s0 :: st) i = (o.out s0 (rowN inn sz st i inn.length), o.st s0 (rowN inn sz st i inn.length) :: behN inn st i inn.length) := rfl
        walk_at "q"
        refine ⟨_, atI_n rfl hr2, ?_⟩
        rw [es] at hnext hr ⊢
        refine ⟨o, inn, sz, w, s0, st, i, rfl, rfl, F, hs0, hsl, hst, hi, ?_⟩
        rw [ew]
        simp only [step1, ew] at hnext
        generalize o.out s0 (rowN inn sz st i inn.length) = v at *
        generalize o.st s0 (rowN inn sz st i inn.length) :: behN inn st i inn.length = b at *
        have hk2 := keyL_nats b
        have hv := valD_plD (W := J1.W) (s := b)
        unfold kN at hv
        have hz1 : J1.nx.length < sizeLine := Nat.lt_of_le_of_lt hnl (by decide)
        have hz2 : J1.ou.length < sizeLine := Nat.lt_of_le_of_lt hol (by decide)
        walk_at "q"
        simp only [hk2]
        have hrd1 : (rowsD J1.W).length = J1.W.length := by simp [rowsD]
        by_cases hm : b ∈ J1.W
        · rw [if_pos hm] at hv hnext
          refine ⟨some (.int (J1.W.idxOf b : Nat)), by rw [Option.map_some, hv], ?_⟩
          walk_at "q"
          refine ⟨_, hv, ?_⟩
          rw [natsD_len, natsD_len]
          refine ⟨hz1, hz2, _, _, _, _, _, rfl, ?_, hnext⟩
          simp [natsD]
        · rw [if_neg hm] at hv hnext
          refine ⟨none, by rw [Option.map_some, hv], ?_⟩
          rw [hrd1]
          split
          · split
            · rename_i h4
              have h4 : J1.W.length = 400 := by omega
              rw [if_pos h4] at hnext
              refine qx ?_
              rw [← hr]
              have hn := rowJ_none (ys := (List.range w).drop (i + 1)) hnext
              rw [List.take_append_drop] at hn
              rw [hn]
            · rename_i h4
              rw [if_neg (by omega)] at hnext
              have hp := putD_plD hm
              unfold kN at hp
              refine ⟨by rw [plD_len]; exact Nat.lt_of_le_of_lt hl1 (by decide), _, rfl, ?_⟩
              dsimp only
              rw [hp]
              have hv2 := valD_plD (W := J1.W ++ [b]) (s := b)
              unfold kN at hv2
              rw [if_pos (by simp), List.idxOf_append, if_neg hm] at hv2
              walk_at "q"
              refine ⟨by rw [hrd1]; exact Nat.lt_of_le_of_lt hl1 (by decide), _, hv2, ?_⟩
              rw [natsD_len, natsD_len]
              refine ⟨hz1, hz2, _, _, _, _, _, rfl, ?_, hnext⟩
              simp [natsD, rowsD]
          · rename_i h4
            exact absurd rfl h4
      · rintro σ l ⟨J1, y5, y11, y12, y13, rfl, rfl, hj⟩
        rw [show ((w : Int)).toNat = w from by simp, show (List.range w).take w = List.range w by rw [List.take_of_length_le (by simp)]] at hj
        rw [hj] at hr
        walk_at "q"
        exact ⟨_, by show 401 - ((t : Int) + 1).toNat < 401 - (t : Int).toNat; omega, rfl, t + 1, J1, y5, y11, y12, y13, rfl, rfl, hstep _ hj, rowJ_all (okSt_next F) (fun x hx => List.mem_range.mp hx) (ok _ (getD_mem (d := []) ht)) ok hj, hr⟩
    · rename_i h0
      rw [show 401 - t = (400 - t) + 1 by have := I.t_le; omega] at hr
      unfold runJ at hr
      rw [if_neg (by omega)] at hr
      exact q J hr.symm
structure Cs_law_words (P : Program) (w : World) (K : PySem.W.Frag) (mg : Str → Option Value) (base : Heap) : Prop where
  law_shown : CalQ P w K mg base 1 "_law_shown" 2 fs_law_shown
  law_numbers : CalQ P w K mg base 2 "_law_numbers" 1 fs_law_numbers
theorem ok_law_words {f : Addr} {fd : FuncData} (F : Fun K "_law_words" "_law_words" s_law_words f fd) (B : Bt mg) (C : Cs_law_words P w K mg base) : FnOk P w K mg base (L2.CX P w) 3 f fd ["outer", "inners", "sizes", "word"] (spQ K 4 fs_law_words) := by
  have nd := sc_law_words.nd
  refine fun_q (k := 2) F sc_law_words 4 rfl (fun cdv A outer s H E hr tk => (qss_cons (qs_set (i := 4) nd rfl (by first | exact Or.inl rfl | exact Or.inr rfl) (qe_call C.law_numbers hr (by decide) tk (by rfl) (qa_cons (qe_var 2) qa_nil)))
    (qss_cons (qs_set (i := 5) nd rfl (by first | exact Or.inl rfl | exact Or.inr rfl) (qe_lc (f := .frz) (own := [("inner", 6)]) rfl nd (qi_tup (pi_tup (qe_var 1))) (blkOk_by (N := N_law_words) (sc := defScope s_law_words) (by decide +kernel)) (fun _ _ _ _ _ => (qgv_name (i := 6) (by decide) nd rfl (by first | exact Or.inl rfl | exact Or.inr rfl))) (fun _ _ _ _ _ => qts_nil) (fun _ _ _ _ _ => (qe_call C.law_shown hr (by decide) takes0 (by rfl) (qa_cons (qe_var 6) (qa_cons (qe_var 3) qa_nil))))))
    (qss_cons (qs_setLc (f := .frz) (i := 7) rfl nd rfl rfl (sw_true rfl rfl rfl (by decide +kernel)) (own := [("place", 8)]) (qi_range1 (pi_range1 (by rfl) B.range (qa_cons (qe_callB call_len_seq ref_len (by rfl) B.len (by decide +kernel) (qa_cons (qe_var 3) qa_nil)) qa_nil))) (blkOk_by (N := N_law_words) (sc := defScope s_law_words) (by decide +kernel)) (fun _ _ _ _ _ => (qgv_name (i := 8) (by decide) nd rfl (by first | exact Or.inl rfl | exact Or.inr rfl))) (fun _ _ _ _ _ => qts_nil) (fun _ _ _ _ _ => (qe_dget hr.u1 (qe_var 4) (qe_callTy call_tuple_of ref_tuple (by rfl) B.tuple (by decide +kernel) (qa_cons (qe_lc (f := .frz) (own := [("column", 9)]) rfl nd (qi_lst (qe_var 5)) (blkOk_by (N := N_law_words) (sc := _) (by kernel_rfl)) (fun _ _ _ _ _ => (qgv_name (i := 9) (by decide) nd rfl (by first | exact Or.inl rfl | exact Or.inr rfl))) (fun _ _ _ _ _ => qts_nil) (fun _ _ _ _ _ => (qe_ix (qe_var 9) (qe_var 8) (fun _ _ => rfl)))) qa_nil)) (fun _ _ => rfl))))
    (qss_one (qs_ret (qe_call C.law_shown hr (by decide) tk (by rfl) (qa_cons (qe_var 0) (qa_cons (qe_var 7) qa_nil))))))))) (fun ds l Qd Ed hl h => ?_)
  obtain ⟨o, inn, sz, w, ws, rfl, rfl, F, hw, hwl, q⟩ := h
  walk_at "q"
  refine ⟨sz, rfl, rfl, by have := F.szl; have := F.n3; omega, fun z hz => by have := F.szs z hz; omega, rows_le' (fun z hz => (F.szs z hz).1) (Nat.le_trans F.rows F.ok.2.2.2.2.2.1), ?_⟩
  walk_at "q"
  refine lcI (fun i acc l => acc = (inn.take i).map (fun m => .tup (natsD (m.run m.s ws))) ∧ l = [.dt (plD (rowsN sz))]) (by rw [List.length_map]; exact Nat.lt_of_le_of_lt F.n3 (by decide)) ⟨rfl, rfl⟩ ?_ ?_
  · rintro i x acc l hx ha ⟨rfl, rfl⟩
    rw [List.getElem?_map] at hx
    obtain ⟨m, hm, rfl⟩ := Option.map_eq_some_iff.mp hx
    have hi := (List.getElem?_eq_some_iff.mp hm).1
    have hmem := F.ins m (List.mem_of_getElem? hm)
    walk_at "q"
    refine ⟨m, ws, .inl rfl, rfl, hmem.1, by rw [hmem.2]; exact hw, hwl, ?_⟩
    walk_at "q"
    refine ⟨⟨by rw [List.length_take]; omega, by omega⟩, ?_⟩
    rw [List.take_add_one, hm]
    simp
  · rintro acc l ha ⟨rfl, rfl⟩
    rw [List.length_map, List.take_length]
    walk_at "q"
    have hz : (natsD ws).length < 4611686018427387904 := by rw [natsD_len]; exact Nat.lt_of_le_of_lt hwl (by decide)
    refine ⟨by omega, by omega, ?_⟩
    rw [natsD_len, Int.toNat_natCast]
    have h0 := okSt_start F
    obtain ⟨s0, t, e, h0, htl, ht⟩ := h0
    unfold startN at e
    injection e with e1 e2
    subst e2
    refine lcI (fun i acc l => acc = natsD ((wordRows inn sz ws).take i) ∧ l = [.dt (plD (rowsN sz))]) (by rw [rangeD_len]; exact Nat.lt_of_le_of_lt hwl (by decide)) ⟨rfl, rfl⟩ ?_ ?_
    · rintro i x acc l hx ha ⟨rfl, rfl⟩
      obtain ⟨hi, rfl⟩ := rangeD_get hx
      have hrow := rowsAt_get F ws _ i hw hi htl ht
      walk_at "q"
      refine lcI (fun j acc l => acc = natsD ((List.range j).map fun j => ((inn.getD j ⟨0, 0, 0, [], []⟩).run ((inn.map (·.s)).getD j 0) ws).getD i 0) ∧ l = [.dt (plD (rowsN sz))]) (by rw [List.length_map]; exact Nat.lt_of_le_of_lt F.n3 (by decide)) ⟨rfl, rfl⟩ ?_ ?_
      · rintro j x acc l hx ha2 ⟨rfl, rfl⟩
        rw [List.getElem?_map] at hx
        obtain ⟨m, hm, rfl⟩ := Option.map_eq_some_iff.mp hx
        have hj := (List.getElem?_eq_some_iff.mp hm).1
        have hmg : inn.getD j ⟨0, 0, 0, [], []⟩ = m := by simp [List.getD, hm]
        have hms : (inn.map (·.s)).getD j 0 = m.s := by simp [List.getD, hm]
        walk_at "q"
        refine ⟨_, atI_nat (k := i) (by omega) (by rw [Mc.run_len]; exact hi), ⟨by rw [natsD_len]; simp, by omega⟩, ?_⟩
        rw [List.range_succ, List.map_append, natsD_app]
        simp only [List.map_cons, List.map_nil, hmg, hms]
        rfl
      · rintro acc l ha2 ⟨rfl, rfl⟩
        rw [List.length_map]
        have hv := valD_plD (W := rowsN sz) (s := (List.range inn.length).map fun j => ((inn.getD j ⟨0, 0, 0, [], []⟩).run ((inn.map (·.s)).getD j 0) ws).getD i 0)
        rw [if_pos hrow.2] at hv
        have hk := keyL_nats ((List.range inn.length).map fun j => ((inn.getD j ⟨0, 0, 0, [], []⟩).run ((inn.map (·.s)).getD j 0) ws).getD i 0)
        unfold kN at hv
        have hwr : (wordRows inn sz ws)[i]? = some ((rowsN sz).idxOf ((List.range inn.length).map fun j => ((inn.getD j ⟨0, 0, 0, [], []⟩).run ((inn.map (·.s)).getD j 0) ws).getD i 0)) := by
          unfold wordRows
          rw [List.getElem?_map]
          simp [hi]

        generalize ((List.range inn.length).map fun j => ((inn.getD j ⟨0, 0, 0, [], []⟩).run ((inn.map (·.s)).getD j 0) ws).getD i 0) = V at *
        have hwl2 : (wordRows inn sz ws).length = ws.length := by simp [wordRows]
        walk_at "q"
        refine ⟨_, by rw [hk, Option.map_some, hv], ⟨by rw [natsD_len, List.length_take]; omega, by omega⟩, ?_⟩
        rw [List.take_add_one, hwr, natsD_app]
        rfl
    · rintro acc l ha2 ⟨rfl, rfl⟩
      have hwl2 : (wordRows inn sz ws).length = ws.length := by simp [wordRows]
      rw [rangeD_len, List.take_of_length_le (by omega)]
      walk_at "q"
      refine ⟨o, wordRows inn sz ws, .inr rfl, rfl, F.ok, ?_, by omega, ?_⟩
      · intro x hx
        unfold wordRows at hx
        obtain ⟨p, hp, rfl⟩ := List.mem_map.mp hx
        exact Nat.lt_of_lt_of_le (List.idxOf_lt_length_of_mem (rowsAt_get F ws _ p hw (List.mem_range.mp hp) htl ht).2) F.rows
      · walk_at "q"
        exact q
theorem ok_moved {f : Addr} {fd : FuncData} (F : Fun K "moved" "moved" s_moved f fd) (B : Bt mg) : FnOk P w K mg base (L2.CX P w) 1 f fd ["outer", "inners", "sizes", "state", "letter"] (spQ K 5 fs_moved) := by
  have nd := sc_moved.nd
  refine fun_q (k := 0) F sc_moved 5 rfl (fun cdv A outer s H E hr tk => (qss_cons (qs_set (i := 5) nd rfl (by first | exact Or.inl rfl | exact Or.inr rfl) qe_int)
    (qss_cons (qs_set (i := 6) nd rfl (by first | exact Or.inl rfl | exact Or.inr rfl) (qe_lst (f := .cell) qa_nil))
    (qss_cons (qs_for (passes_of rfl) rfl (qi_range1 (pi_range1 (by rfl) B.range (qa_cons (qe_callB call_len_seq ref_len (by rfl) B.len (by decide +kernel) (qa_cons (qe_var 1) qa_nil)) qa_nil))) (qg_name (i := 7) nd rfl (by first | exact Or.inl rfl | exact Or.inr rfl)) (qss_cons (qs_set (i := 8) nd rfl (by first | exact Or.inl rfl | exact Or.inr rfl) (qe_ix (qe_var 1) (qe_var 7) (fun _ _ => rfl)))
    (qss_cons (qs_set (i := 9) nd rfl (by first | exact Or.inl rfl | exact Or.inr rfl) (qe_op op_add ref_I0 (qe_op op_mulW ref_II (qe_ix (qe_var 3) (qe_op op_add ref_I0 (qe_var 7) qe_int) (fun _ _ => rfl)) (qe_ix (qe_var 8) qe_int (fun _ _ => rfl))) (qe_var 4)))
    (qss_cons (qs_set (i := 5) nd rfl (by first | exact Or.inl rfl | exact Or.inr rfl) (qe_op op_add ref_I0 (qe_op op_mulW ref_II (qe_var 5) (qe_ix (qe_var 2) (qe_var 7) (fun _ _ => rfl))) (qe_ix (qe_ix (qe_var 8) qe_int (fun _ _ => rfl)) (qe_var 9) (fun _ _ => rfl))))
    (qss_one (qs_expr (qe_bm PySem.F.slot_list_append PySem.F.type_list_append mt_append ref_append (qe_var 6) (qa_cons (qe_ix (qe_ix (qe_var 8) qe_int (fun _ _ => rfl)) (qe_var 9) (fun _ _ => rfl)) qa_nil))))))))
    (qss_cons (qs_set (i := 9) nd rfl (by first | exact Or.inl rfl | exact Or.inr rfl) (qe_op op_add ref_I0 (qe_op op_mulW ref_II (qe_ix (qe_var 3) qe_int (fun _ _ => rfl)) (qe_ix (qe_var 0) qe_int (fun _ _ => rfl))) (qe_var 5)))
    (qss_one (qs_ret (qe_tup (qa_cons (qe_ix (qe_ix (qe_var 0) qe_int (fun _ _ => rfl)) (qe_var 9) (fun _ _ => rfl)) (qa_cons (qe_op op_catA ref_catT (qe_tup (qa_cons (qe_ix (qe_ix (qe_var 0) qe_int (fun _ _ => rfl)) (qe_var 9) (fun _ _ => rfl)) qa_nil)) (qe_callTy call_tuple_of ref_tuple (by rfl) B.tuple (by decide +kernel) (qa_cons (qe_var 6) qa_nil))) qa_nil)))))))))) (fun ds l Qd Ed hl h => ?_)
  obtain ⟨o, inn, sz, s0, st, x, rfl, rfl, ok, h0, hin, hsz, hst, h3, hs, hr, hy, hrw, q⟩ := h
  unfold mcD at hl ⊢
  walk_at "q"
  refine ⟨by omega, by omega, ?_⟩
  refine loopR (fun i σ l => ∃ x7 x8 x9, σ = [some (.d (.tup [.int (o.w : Int), .int (o.s : Int), .tup (natsD o.nx), .tup (natsD o.ou)])), some (.d (.tup (inn.map mcD))), some (.d (.tup (natsD sz))), some (.d (.tup (natsD (s0 :: st)))), some (.d (.int x)), some (.d (.int (rowN inn sz st x i : Nat))), some (.loc 0), x7, x8, x9] ∧ l = [.lst (natsD (behN inn st x i))]) ⟨_, _, _, rfl, rfl⟩ ?_ ?_
  · rintro i σ l hi ⟨x7, x8, x9, rfl, rfl⟩
    have hi : i < inn.length := by omega
    have hm := List.getElem?_eq_getElem hi
    have hg : inn.getD i ⟨0, 0, 0, [], []⟩ = inn[i] := by simp [List.getD, hi]
    have hmem := hin _ (List.getElem_mem hi)
    have hsi := hs i hi
    have hri := hr (i + 1) hi
    have hr0 := hr i (by omega)
    have hbl : (behN inn st x i).length = i := by simp [behN]
    have hrs : rowN inn sz st x (i + 1) = rowN inn sz st x i * sz.getD i 0 + inn[i].out (st.getD i 0) x := by rw [← hg]; rfl
    have hbs : behN inn st x (i + 1) = behN inn st x i ++ [inn[i].st (st.getD i 0) x] := by rw [← hg]; simp [behN, List.range_succ]
    rw [hg] at hsi
    rw [hrs, hbs]
    generalize inn[i] = m at *
    generalize behN inn st x i = B at *
    generalize hR : rowN inn sz st x i = R at *
    have hc := cell_lt hsi hmem.2
    have e : ((st.getD i 0 : Nat) : Int) * (m.w : Int) + (x : Int) = ((st.getD i 0 * m.w + x : Nat) : Int) := by simp
    have h1 : st.getD i 0 * m.w + x < m.ou.length := by rw [hmem.1.2.2.1]; exact hc
    have h2 : st.getD i 0 * m.w + x < m.nx.length := by rw [hmem.1.2.1]; exact hc
    have hsz2 : sz.getD i 0 < 10000 := by
      have : i < sz.length := by omega
      have e2 : sz.getD i 0 = sz[i] := by simp [List.getD, this]
      rw [e2]; exact hy _ (List.getElem_mem this)
    walk_at "q"
    refine ⟨_, atI_m (by omega) hm, _, atI_nat (k := i + 1) (by omega) (by simp; omega), ?_⟩
    unfold mcD
    walk_at "q"
    rw [show (s0 :: st).getD (i + 1) 0 = st.getD i 0 by simp [List.getD]]
    have hw1 := hmem.1.2.2.2.2.2.1
    have hw2 := hmem.1.2.2.2.2.2.2
    refine ⟨mulW_nat (by omega) (by omega), _, atI_nat (k := i) rfl (by omega), ?_⟩
    walk_at "q"
    refine ⟨mulW_nat (by omega) (by omega), _, rfl, ?_⟩
    walk_at "q"
    rw [e]
    refine ⟨_, atI_nat rfl h1, ?_⟩
    walk_at "q"
    refine ⟨_, rfl, ?_⟩
    walk_at "q"
    refine ⟨_, atI_nat rfl h2, by rw [natsD_len, hbl]; exact Nat.lt_of_le_of_lt (by omega : _ ≤ 100) (by decide), ?_⟩
    rw [natsD_app]
    exact ⟨_, _, _, rfl, rfl⟩
  · rintro σ l ⟨x7, x8, x9, rfl, rfl⟩
    have hbl : (behN inn st x inn.length).length = inn.length := by simp [behN]
    have hc := cell_lt h0 hrw
    have hrr := hr inn.length (Nat.le_refl _)
    have hw1 := ok.2.2.2.2.2.1
    have hw2 := ok.2.2.2.2.2.2
    rw [show ((inn.length : Int)).toNat = inn.length from by simp]
    generalize behN inn st x inn.length = B at *
    generalize rowN inn sz st x inn.length = R at *
    have e : (s0 : Int) * (o.w : Int) + (R : Int) = ((s0 * o.w + R : Nat) : Int) := by simp
    have h1 : s0 * o.w + R < o.ou.length := by rw [ok.2.2.1]; exact hc
    have h2 : s0 * o.w + R < o.nx.length := by rw [ok.2.1]; exact hc
    walk_at "q"
    refine ⟨_, atI_nat (k := 0) rfl (by simp), ?_⟩
    walk_at "q"
    refine ⟨mulW_nat (by omega) (by omega), _, rfl, ?_⟩
    walk_at "q"
    rw [e]
    refine ⟨_, atI_nat rfl h1, _, rfl, ?_⟩
    walk_at "q"
    refine ⟨_, atI_nat rfl h2, by rw [natsD_len, hbl]; exact Nat.le_trans (by omega : _ ≤ 100) (by decide), ?_⟩
    exact q
structure Cs_joined (P : Program) (w : World) (K : PySem.W.Frag) (mg : Str → Option Value) (base : Heap) : Prop where
  moved : CalQ P w K mg base 1 "moved" 5 fs_moved
theorem ok_joined {f : Addr} {fd : FuncData} (F : Fun K "joined" "joined" s_joined f fd) (B : Bt mg) (C : Cs_joined P w K mg base) (M : Mg K mg) (R : Rs P w K mg base) : FnOk P w K mg base (L2.CX P w) 3 f fd ["outer", "inners", "sizes", "width"] (spQ K 4 fs_joined) := by
  have nd := sc_joined.nd
  refine fun_q (k := 2) F sc_joined 4 rfl (fun cdv A outer s H E hr tk => (qss_cons (qs_set (i := 4) nd rfl (by first | exact Or.inl rfl | exact Or.inr rfl) (qe_op op_catA ref_catT (qe_tup (qa_cons (qe_ix (qe_var 0) qe_int (fun _ _ => rfl)) qa_nil)) (qe_callTy call_tuple_of ref_tuple (by rfl) B.tuple (by decide +kernel) (qa_cons (qe_lc (f := .frz) (own := [("inner", 5)]) rfl nd (qi_tup (pi_tup (qe_var 1))) (blkOk_by (N := N_joined) (sc := defScope s_joined) (by decide +kernel)) (fun _ _ _ _ _ => (qgv_name (i := 5) (by decide) nd rfl (by first | exact Or.inl rfl | exact Or.inr rfl))) (fun _ _ _ _ _ => qts_nil) (fun _ _ _ _ _ => (qe_ix (qe_var 5) qe_int (fun _ _ => rfl)))) qa_nil))))
    (qss_cons (qs_set (i := 6) nd rfl (by first | exact Or.inl rfl | exact Or.inr rfl) (qe_dispT hr.u1 (qe_var 4) qe_int))
    (qss_cons (qs_set (i := 7) nd rfl (by first | exact Or.inl rfl | exact Or.inr rfl) (qe_lst (f := .cell) (qa_cons (qe_var 4) qa_nil)))
    (qss_cons (qs_set (i := 8) nd rfl (by first | exact Or.inl rfl | exact Or.inr rfl) (qe_lst (f := .cell) qa_nil))
    (qss_cons (qs_set (i := 9) nd rfl (by first | exact Or.inl rfl | exact Or.inr rfl) (qe_lst (f := .cell) qa_nil))
    (qss_cons (qs_set (i := 10) nd rfl (by first | exact Or.inl rfl | exact Or.inr rfl) qe_int)
    (qss_cons (qs_while (passes_of rfl) (qt_cmp (op_lt) ref_B0 (qe_var 10) (qe_callB call_len_seq ref_len (by rfl) B.len (by decide +kernel) (qa_cons (qe_var 7) qa_nil)) (nomark _)) (qss_cons (qs_for (passes_of rfl) rfl (qi_range1 (pi_range1 (by rfl) B.range (qa_cons (qe_var 3) qa_nil))) (qg_name (i := 11) nd rfl (by first | exact Or.inl rfl | exact Or.inr rfl)) (qss_cons (qs_asg (qe_call C.moved hr (by decide) tk (by rfl) (qa_cons (qe_var 0) (qa_cons (qe_var 1) (qa_cons (qe_var 2) (qa_cons (qe_ix (qe_var 7) (qe_var 10) (fun _ _ => rfl)) (qa_cons (qe_var 11) qa_nil)))))) (qg_tup (n := 2) rfl (qgs_cons (qg_name (i := 12) nd rfl (by first | exact Or.inl rfl | exact Or.inr rfl)) (qgs_cons (qg_name (i := 13) nd rfl (by first | exact Or.inl rfl | exact Or.inr rfl)) qgs_nil))))
    (qss_cons (qs_if (qt_cmp (op_dnotin hr.u1) ref_din (qe_var 13) (qe_var 6) (by rfl)) (qss_cons (qs_if (qt_cmp (op_eqD hr.units) ref_eq (qe_callB call_len_seq ref_len (by rfl) B.len (by decide +kernel) (qa_cons (qe_var 7) qa_nil)) (qe_glob (by rfl) M.MOST_JOINED (fun _ => RD.int _)) (nomark _)) (qss_one (qs_raise rfl R.TooMany hr (by decide) tk (by rfl) (qa_cons (qe_glob (by rfl) M.MOST_JOINED (fun _ => RD.int _)) qa_nil))) qss_nil)
    (qss_cons (qs_asg (qe_callB call_len_seq ref_len (by rfl) B.len (by decide +kernel) (qa_cons (qe_var 7) qa_nil)) (qg_subD (W := W0) hr.u1 (qe_var 6) (qe_var 13)))
    (qss_one (qs_expr (qe_bm PySem.F.slot_list_append PySem.F.type_list_append mt_append ref_append (qe_var 7) (qa_cons (qe_var 13) qa_nil)))))) qss_nil)
    (qss_cons (qs_expr (qe_bm PySem.F.slot_list_append PySem.F.type_list_append mt_append ref_append (qe_var 8) (qa_cons (qe_dget hr.u1 (qe_var 6) (qe_var 13) (fun _ _ => rfl)) qa_nil)))
    (qss_one (qs_expr (qe_bm PySem.F.slot_list_append PySem.F.type_list_append mt_append ref_append (qe_var 9) (qa_cons (qe_var 12) qa_nil))))))))
    (qss_one (qs_aug (i := 10) nd rfl (by first | exact Or.inl rfl | exact Or.inr rfl) qe_int ip_add ref_ip))))
    (qss_one (qs_ret (qe_tup (qa_cons (qe_var 3) (qa_cons qe_int (qa_cons (qe_callTy call_tuple_of ref_tuple (by rfl) B.tuple (by decide +kernel) (qa_cons (qe_var 8) qa_nil)) (qa_cons (qe_callTy call_tuple_of ref_tuple (by rfl) B.tuple (by decide +kernel) (qa_cons (qe_var 9) qa_nil)) qa_nil))))))))))))))) (fun ds l Qd Ed hl h => ?_)
  obtain ⟨o, inn, sz, w, rfl, rfl, F, q, qx⟩ := h
  unfold mcD at hl ⊢
  walk_at "q"
  have hn3 := F.n3
  have hw1 := F.w1
  have hw2 := F.w2
  refine lcI (fun i acc l => acc = natsD ((inn.take i).map (·.s)) ∧ l = []) (by rw [List.length_map]; exact Nat.lt_of_le_of_lt hn3 (by decide)) ⟨rfl, rfl⟩ ?_ ?_
  · rintro i x acc l hx ha ⟨rfl, rfl⟩
    rw [List.getElem?_map] at hx
    obtain ⟨m, hm, rfl⟩ := Option.map_eq_some_iff.mp hx
    have hi := (List.getElem?_eq_some_iff.mp hm).1
    walk_at "q"
    refine ⟨⟨by simp [natsD]; omega, by omega⟩, ?_⟩
    rw [List.take_add_one, hm]
    simp [natsD]
  · rintro acc l ha ⟨rfl, rfl⟩
    rw [List.length_map, List.take_length]
    walk_at "q"
    refine ⟨by simp [natsD]; exact Nat.le_trans (by omega : _ ≤ 100) (by decide), ?_⟩
    rw [show D.int (o.s : Int) :: natsD (inn.map (·.s)) = natsD (startN o inn) from rfl]
    have hk := keyL_nats (startN o inn)
    simp only [hk, Option.map_some]
    walk_at "q"
    refine whileI (fun σ l => ∃ (t : Nat) (J : JS) (x5 x11 x12 x13 : Option QL.P), σ = [some (.d (mcD o)), some (.d (.tup (inn.map mcD))), some (.d (.tup (natsD sz))), some (.d (.int w)), some (.d (.tup (natsD (startN o inn)))), x5, some (.loc 0), some (.loc 1), some (.loc 2), some (.loc 3), some (.d (.int t)), x11, x12, x13] ∧ l = [.dt (plD J.W), .lst (rowsD J.W), .lst (natsD J.nx), .lst (natsD J.ou)] ∧
      JInv (fJ o inn sz) w t (startN o inn) J ∧ (∀ y ∈ J.W, okSt o inn y) ∧ runJ (fJ o inn sz) w (401 - t) t J = joinJ (fJ o inn sz) w (startN o inn)) (fun (σ : SS) (_ : LS) => match σ[10]? with
        | some (some (QL.P.d (QL.D.int t))) => 401 - t.toNat
        | _ => 0) ⟨0, startJ (startN o inn), _, _, _, _, rfl, rfl, JInv.start _ _ _, by simpa [startJ] using okSt_start F, rfl⟩ ?_
    rintro σ l ⟨t, J, x5, x11, x12, x13, rfl, rfl, I, ok, hr⟩
    have hlen := I.len
    have hrd : (rowsD J.W).length = J.W.length := by simp [rowsD]
    walk_at "q"
    rw [hrd]
    split
    · rename_i h0
      have ht : t < J.W.length := by omega
      obtain ⟨s0, st, es, hs0, hsl, hst⟩ := ok _ (getD_mem (d := []) ht)
      have hsg : J.W[t]? = some (J.W.getD t []) := by simp [List.getD, ht]
      rw [show 401 - t = (401 - (t + 1)) + 1 by omega] at hr
      unfold runJ at hr
      rw [if_pos ht] at hr
      have hstep := fun J' => JInv.step (J' := J') I ht
      refine ⟨by omega, by omega, ?_⟩
      refine loopR (fun i σ l => ∃ (J1 : JS) (x5 x11 x12 x13 : Option QL.P), σ = [some (.d (mcD o)), some (.d (.tup (inn.map mcD))), some (.d (.tup (natsD sz))), some (.d (.int w)), some (.d (.tup (natsD (startN o inn)))), x5, some (.loc 0), some (.loc 1), some (.loc 2), some (.loc 3), some (.d (.int t)), x11, x12, x13] ∧ l = [.dt (plD J1.W), .lst (rowsD J1.W), .lst (natsD J1.nx), .lst (natsD J1.ou)] ∧
        rowJ (fJ o inn sz) (J.W.getD t []) ((List.range w).take i) J = some J1) ⟨J, _, _, _, _, rfl, rfl, rfl⟩ ?_ ?_
      · rintro i σ l hi ⟨J1, y5, y11, y12, y13, rfl, rfl, hj⟩
        have hi : i < w := by simpa using hi
        have a := rowJ_ok hj
        have hok1 := rowJ_all (okSt_next F) (fun x hx => List.mem_range.mp (List.mem_of_mem_take hx)) (ok _ (getD_mem (d := []) ht)) ok hj
        have hl1 := a.len hlen
        obtain ⟨E, hE⟩ := a.pre
        have hs1 : J1.W[t]? = some (J.W.getD t []) := by rw [hE, List.getElem?_append_left ht]; exact hsg
        have hti : t * w + i ≤ 400 * 24 := Nat.le_trans (Nat.le_of_lt (cell_lt ht hi)) (Nat.mul_le_mul hlen hw2)
        have hnl : J1.nx.length ≤ 9600 := by
          rw [a.nx, I.nx, List.length_append, flat_const_len (fun s x => J.W.idxOf (fJ o inn sz s x).2) w, List.length_take]
          simp
          rw [Nat.min_eq_left (Nat.le_of_lt ht), Nat.min_eq_left (Nat.le_of_lt hi)]
          exact hti
        have hol : J1.ou.length ≤ 9600 := by
          rw [a.ou, I.ou, List.length_append, flat_const_len (fun s x => (fJ o inn sz s x).1) w, List.length_take]
          simp
          rw [Nat.min_eq_left (Nat.le_of_lt ht), Nat.min_eq_left (Nat.le_of_lt hi)]
          exact hti
        have hr2 : (rowsD J1.W)[t]? = some (.tup (natsD (J.W.getD t []))) := by unfold rowsD; rw [List.getElem?_map, hs1]; rfl
        have hnext := rowJ_snoc (f := fJ o inn sz) (s := J.W.getD t []) (x := i) (xs := (List.range w).take i) (J := J)
        rw [← range_take hi, hj] at hnext
        have hri := row_idx F hi hst
        have hsm := rowN_small F hi hst
        have ew : fJ o inn sz (s0 :: st) i = (o.out s0 (rowN inn sz st i inn.length), o.st s0 (rowN inn sz st i inn.length) :: behN inn st i inn.length) := rfl
        walk_at "q"
        refine ⟨_, atI_n rfl hr2, ?_⟩
        rw [es] at hnext hr ⊢
        refine ⟨o, inn, sz, s0, st, i, rfl, rfl, F.ok, hs0, fun m hm => ⟨(F.ins m hm).1, by rw [(F.ins m hm).2]; exact hi⟩, F.szl, hsl, F.n3, hst, fun j hj => Nat.lt_of_lt_of_le (hsm j hj) (Nat.le_trans (Nat.pow_le_pow_right (by decide) (by omega : j ≤ 3)) (by decide)), fun y hy => by have := F.szs y hy; omega, Nat.lt_of_lt_of_le hri.2.2 F.rows, ?_⟩
        simp only [step1, ew] at hnext
        generalize o.out s0 (rowN inn sz st i inn.length) = v at *
        generalize o.st s0 (rowN inn sz st i inn.length) :: behN inn st i inn.length = b at *
        have hk2 := keyL_nats b
        have hv := valD_plD (W := J1.W) (s := b)
        unfold kN at hv
        have hz1 : J1.nx.length < sizeLine := Nat.lt_of_le_of_lt hnl (by decide)
        have hz2 : J1.ou.length < sizeLine := Nat.lt_of_le_of_lt hol (by decide)
        walk_at "q"
        simp only [hk2]
        have hrd1 : (rowsD J1.W).length = J1.W.length := by simp [rowsD]
        by_cases hm : b ∈ J1.W
        · rw [if_pos hm] at hv hnext
          refine ⟨some (.int (J1.W.idxOf b : Nat)), by rw [Option.map_some, hv], ?_⟩
          walk_at "q"
          refine ⟨_, hv, ?_⟩
          rw [natsD_len, natsD_len]
          refine ⟨hz1, hz2, _, _, _, _, _, rfl, ?_, hnext⟩
          simp [natsD]
        · rw [if_neg hm] at hv hnext
          refine ⟨none, by rw [Option.map_some, hv], ?_⟩
          rw [hrd1]
          split
          · split
            · rename_i h4
              have h4 : J1.W.length = 400 := by omega
              rw [if_pos h4] at hnext
              refine qx ?_ _
              rw [← hr]
              have hn := rowJ_none (ys := (List.range w).drop (i + 1)) hnext
              rw [List.take_append_drop] at hn
              rw [hn]
            · rename_i h4
              rw [if_neg (by omega)] at hnext
              have hp := putD_plD hm
              unfold kN at hp
              refine ⟨by rw [plD_len]; exact Nat.lt_of_le_of_lt hl1 (by decide), _, rfl, ?_⟩
              dsimp only
              rw [hp]
              have hv2 := valD_plD (W := J1.W ++ [b]) (s := b)
              unfold kN at hv2
              rw [if_pos (by simp), List.idxOf_append, if_neg hm] at hv2
              walk_at "q"
              refine ⟨by rw [hrd1]; exact Nat.lt_of_le_of_lt hl1 (by decide), _, hv2, ?_⟩
              rw [natsD_len, natsD_len]
              refine ⟨hz1, hz2, _, _, _, _, _, rfl, ?_, hnext⟩
              simp [natsD, rowsD]
          · rename_i h4
            exact absurd rfl h4
      · rintro σ l ⟨J1, y5, y11, y12, y13, rfl, rfl, hj⟩
        rw [show ((w : Int)).toNat = w from by simp, show (List.range w).take w = List.range w by rw [List.take_of_length_le (by simp)]] at hj
        rw [hj] at hr
        walk_at "q"
        exact ⟨_, by show 401 - ((t : Int) + 1).toNat < 401 - (t : Int).toNat; omega, rfl, t + 1, J1, y5, y11, y12, y13, rfl, rfl, hstep _ hj, rowJ_all (okSt_next F) (fun x hx => List.mem_range.mp hx) (ok _ (getD_mem (d := []) ht)) ok hj, hr⟩
    · rename_i h0
      rw [show 401 - t = (400 - t) + 1 by have := I.t_le; omega] at hr
      unfold runJ at hr
      rw [if_neg (by omega)] at hr
      exact q J hr.symm
structure Cs_law_asked (P : Program) (w : World) (K : PySem.W.Frag) (mg : Str → Option Value) (base : Heap) : Prop where
  joined : CalQ P w K mg base 3 "joined" 4 fs_joined
theorem ok_law_asked {f : Addr} {fd : FuncData} (F : Fun K "_law_asked" "_law_asked" s_law_asked f fd) (B : Bt mg) (C : Cs_law_asked P w K mg base) (Y : Ys K mg) : FnOk P w K mg base (L2.CX P w) 4 f fd ["outer", "inners", "sizes", "width"] (spQ K 4 fs_law_asked) := by
  have nd := sc_law_asked.nd
  refine fun_q (k := 3) F sc_law_asked 4 rfl (fun cdv A outer s H E hr tk => (qss_one (qs_try_as (i := 4) (m := tab_TooMany) rfl rfl nd rfl rfl ⟨by rfl, by decide, .inl Y.cm_TooMany⟩ tk Y.ex_TooMany (fun W1 pn xe tk po => (qss_one (qs_ret (qe_tup (qa_cons qe_bl (qa_cons (qe_call C.joined hr (by decide) tk (by rfl) (qa_cons (qe_var 0) (qa_cons (qe_var 1) (qa_cons (qe_var 2) (qa_cons (qe_var 3) qa_nil))))) qa_nil)))))) (fun a oe cls d pn hz hv => (qss_one (qs_ret (qe_tup (qa_cons qe_bl (qa_cons (qe_xf Y.xf_limit hz hv (qe_var 4)) qa_nil))))))))) (fun ds l Qd Ed hl h => ?_)
  obtain ⟨o, inn, sz, w, rfl, rfl, F, q⟩ := h
  unfold askD at q
  walk_at "q"
  refine ⟨o, inn, sz, w, rfl, rfl, F, fun J hJ => ?_, fun hJ l' => ?_⟩
  · rw [hJ] at q
    walk_at "q"
    exact q
  · rw [hJ] at q
    walk_at "q"
    refine .inl ⟨by decide, fun a cls d => ?_⟩
    walk_at "q"
    exact ⟨_, _, _, _, rfl, by simp, rfl, q⟩
structure Cs_law_holds (P : Program) (w : World) (K : PySem.W.Frag) (mg : Str → Option Value) (base : Heap) : Prop where
  is_machine : CalQ P w K mg base 4 "is_machine" 2 fs_is_machine
  run_machine : CalQ P w K mg base 1 "run_machine" 2 fs_run_machine
  law_truth : CalQ P w K mg base 1 "_law_truth" 1 fs_law_truth
  law_words : CalQ P w K mg base 3 "_law_words" 4 fs_law_words
  law_asked : CalQ P w K mg base 4 "_law_asked" 4 fs_law_asked
theorem ok_law_holds {f : Addr} {fd : FuncData} (F : Fun K "_law_holds" "_law_holds" s_law_holds f fd) (B : Bt mg) (C : Cs_law_holds P w K mg base) : FnOk P w K mg base (L2.CX P w) 5 f fd ["outer", "inners", "sizes", "width", "due", "word"] (spQ K 6 fs_law_holds) := by
  have nd := sc_law_holds.nd
  refine fun_q (k := 4) F sc_law_holds 6 rfl (fun cdv A outer s H E hr tk => (qss_cons (qs_set (i := 6) nd rfl (by first | exact Or.inl rfl | exact Or.inr rfl) (qe_call C.law_asked hr (by decide) tk (by rfl) (qa_cons (qe_var 0) (qa_cons (qe_var 1) (qa_cons (qe_var 2) (qa_cons (qe_var 3) qa_nil))))))
    (qss_cons (qs_if (qt_cmp (op_isN) ref_isN (qe_var 4) qe_non (nomark _)) (qss_one (qs_ret (qe_cmp (op_eqD hr.units) ref_eq (qe_var 6) (qe_tup (qa_cons qe_bl (qa_cons qe_int qa_nil))) (nomark _)))) qss_nil)
    (qss_cons (qs_if (QW.qt (qw_or (qt_cmp (op_neD hr.units) ref_ne (qe_var 6) (qe_tup (qa_cons qe_bl (qa_cons (qe_var 4) qa_nil))) (nomark _)) (qw_or1 (qt_val (qe_call C.law_truth hr (by decide) tk (by rfl) (qa_cons (qe_ix (qe_var 6) qe_int (fun _ _ => rfl)) qa_nil)))))) (qss_one (qs_ret qe_bl)) qss_nil)
    (qss_one (qs_ret (qe_and (qe_cmp (op_eqD hr.units) ref_eq (qe_call C.run_machine hr (by decide) tk (by rfl) (qa_cons (qe_ix (qe_var 6) qe_int (fun _ _ => rfl)) (qa_cons (qe_var 5) qa_nil))) (qe_call C.law_words hr (by decide) tk (by rfl) (qa_cons (qe_var 0) (qa_cons (qe_var 1) (qa_cons (qe_var 2) (qa_cons (qe_var 5) qa_nil))))) (nomark _)) (qe_one (qe_call C.is_machine hr (by decide) tk (by rfl) (qa_cons (qe_ix (qe_var 6) qe_int (fun _ _ => rfl)) (qa_cons qe_int qa_nil))))))))))) (fun ds l Qd Ed hl h => ?_)
  obtain ⟨o, inn, sz, w, ws, rfl, rfl, F, ho, hw, hwl, q⟩ := h
  walk_at "q"
  refine ⟨o, inn, sz, w, rfl, rfl, F, ?_⟩
  unfold askD dueD
  cases hJ : joinJ (fJ o inn sz) w (startN o inn) with
  | none =>
    walk_at "q"
    refine ⟨dOk_bl.mpr trivial, dOk_bl.mpr trivial, ?_⟩
    rw [show (D.tup [D.bl false, D.int 400]).eqv (D.tup [D.bl false, D.int 400]) = true by rw [eqv_pair]; simp]
    exact q
  | some J =>
    have I := joinJ_ok hJ
    have hok := jm_ok I F.w1 (by have := F.w2; omega)
    have hV := joinJ_all (okSt_next F) (okSt_start F) hJ
    have hout := jm_out I hV (fJ_out F ho)
    have hrun := run_join F hJ hw
    have hwd : (jm w J).w = w := rfl
    have hst : (jm w J).s = 0 := rfl
    have hl1 : (jm w J).nx.length ≤ 9600 := by rw [hok.2.1, hwd]; exact Nat.mul_le_mul I.len F.w2
    have hl2 : (jm w J).ou.length ≤ 9600 := by rw [hok.2.2.1, hwd]; exact Nat.mul_le_mul I.len F.w2
    dsimp only
    generalize jm w J = m at *

    have he : (D.tup [D.bl true, mcD m]).eqv (D.tup [D.bl true, mcD m]) = true := by rw [eqv_pair, D.eqv_self (noB_mc.mpr trivial)]; rfl
    walk_at "q"
    rw [if_neg (by show ¬ (false = true); decide), he]
    refine ⟨⟨dOk_bl.mpr trivial, dOk_mc.mpr trivial⟩, ⟨dOk_bl.mpr trivial, dOk_mc.mpr trivial⟩, ?_⟩
    rw [if_neg (by decide)]
    refine ⟨_, rfl, rfl, noB_mc.mpr trivial, by rw [sz_mc]; omega, ?_⟩
    walk_at "q"
    refine ⟨m, ws, rfl, rfl, hok, by rw [hwd]; exact hw, hwl, ?_⟩
    walk_at "q"
    refine ⟨o, inn, sz, w, ws, rfl, rfl, F, hw, hwl, ?_⟩
    rw [hst, hrun]
    walk_at "q"
    refine ⟨dOk_nats.mpr trivial, dOk_nats.mpr trivial, ?_⟩
    rw [D.eqv_self (noB_nats.mpr trivial)]
    walk_at "q"
    refine ⟨m.w, m.s, m.nx.map fun (n : Nat) => (n : Int), m.ou.map fun (n : Nat) => (n : Int), 6, by rw [mcD_mD], rfl, by simpa using Nat.le_trans hl1 (by decide), by simpa using Nat.le_trans hl2 (by decide), ?_⟩
    have := right_mc hok (B := 6) hout
    rw [show right m.w m.s (m.nx.map fun (n : Nat) => (n : Int)) (m.ou.map fun (n : Nat) => (n : Int)) 6 = true from this]
    walk_at "q"
    exact q
structure Cs_law_case (P : Program) (w : World) (K : PySem.W.Frag) (mg : Str → Option Value) (base : Heap) : Prop where
  law_take : CalQ P w K mg base 1 "_law_take" 2 fs_law_take
  law_machine : CalQ P w K mg base 3 "_law_machine" 4 fs_law_machine
theorem ok_law_case {f : Addr} {fd : FuncData} (F : Fun K "_law_case" "_law_case" s_law_case f fd) (B : Bt mg) (C : Cs_law_case P w K mg base) : FnOk P w K mg base (L2.CX P w) 4 f fd ["purse", "width", "most"] (spQ K 3 fs_law_case) := by
  have nd := sc_law_case.nd
  refine fun_q (k := 3) F sc_law_case 3 rfl (fun cdv A outer s H E hr tk => (qss_cons (qs_set (i := 3) nd rfl (by first | exact Or.inl rfl | exact Or.inr rfl) (qe_tup qa_nil))
    (qss_cons (qs_set (i := 4) nd rfl (by first | exact Or.inl rfl | exact Or.inr rfl) (qe_tup qa_nil))
    (qss_cons (qs_set (i := 5) nd rfl (by first | exact Or.inl rfl | exact Or.inr rfl) qe_int)
    (qss_cons (qs_for (passes_of rfl) rfl (qi_range1 (pi_range1 (by rfl) B.range (qa_cons (qe_call C.law_take hr (by decide) tk (by rfl) (qa_cons (qe_var 0) (qa_cons qe_int qa_nil))) qa_nil))) (qg_name (i := 6) nd rfl (by first | exact Or.inl rfl | exact Or.inr rfl)) (qss_cons (qs_set (i := 7) nd rfl (by first | exact Or.inl rfl | exact Or.inr rfl) (qe_op op_add ref_I0 qe_int (qe_call C.law_take hr (by decide) tk (by rfl) (qa_cons (qe_var 0) (qa_cons qe_int qa_nil)))))
    (qss_one (qs_if (qt_cmp (op_le) ref_B0 (qe_op op_mulW ref_II (qe_var 5) (qe_var 7)) qe_int (nomark _)) (qss_cons (qs_set (i := 5) nd rfl (by first | exact Or.inl rfl | exact Or.inr rfl) (qe_op op_mulW ref_II (qe_var 5) (qe_var 7)))
    (qss_cons (qs_set (i := 4) nd rfl (by first | exact Or.inl rfl | exact Or.inr rfl) (qe_op op_catA ref_catT (qe_var 4) (qe_tup (qa_cons (qe_var 7) qa_nil))))
    (qss_one (qs_set (i := 3) nd rfl (by first | exact Or.inl rfl | exact Or.inr rfl) (qe_op op_catA ref_catT (qe_var 3) (qe_tup (qa_cons (qe_call C.law_machine hr (by decide) tk (by rfl) (qa_cons (qe_var 0) (qa_cons (qe_var 1) (qa_cons (qe_op op_add ref_I0 qe_int (qe_call C.law_take hr (by decide) tk (by rfl) (qa_cons (qe_var 0) (qa_cons (qe_var 2) qa_nil)))) (qa_cons (qe_var 7) qa_nil))))) qa_nil))))))) qss_nil))))
    (qss_one (qs_ret (qe_tup (qa_cons (qe_call C.law_machine hr (by decide) tk (by rfl) (qa_cons (qe_var 0) (qa_cons (qe_var 5) (qa_cons (qe_op op_add ref_I0 qe_int (qe_call C.law_take hr (by decide) tk (by rfl) (qa_cons (qe_var 0) (qa_cons (qe_var 2) qa_nil)))) (qa_cons (qe_op op_add ref_I0 qe_int (qe_call C.law_take hr (by decide) tk (by rfl) (qa_cons (qe_var 0) (qa_cons qe_int qa_nil)))) qa_nil))))) (qa_cons (qe_var 3) (qa_cons (qe_var 4) qa_nil))))))))))) (fun ds l Qd Ed hl h => ?_)
  obtain ⟨ns, w, most, rfl, rfl, hp, w1, w2, m1, m2, q⟩ := h
  walk_at "q"
  refine ⟨ns, 4, rfl, rfl, hp, by omega, by omega, fun t ns1 t0 t1 hp1 => ?_⟩
  obtain ⟨t, rfl⟩ := Int.eq_ofNat_of_zero_le t0
  walk_at "q"
  refine ⟨by omega, by omega, ?_⟩
  refine loopR (fun i σ l => ∃ (inn : List Mc) (sz : List Nat) (ns' : List Int) (x6 x7 : Option QL.P), σ = [some (.loc 0), some (.d (.int w)), some (.d (.int most)), some (.d (.tup (inn.map mcD))), some (.d (.tup (natsD sz))), some (.d (.int (rowsN sz).length)), x6, x7] ∧ l = [.lst (ns'.map .int)] ∧ Pur ns' ∧ Ins inn sz w ∧ inn.length ≤ i ∧ (rowsN sz).length ≤ 36 ∧ 1 ≤ (rowsN sz).length) ⟨[], [], ns1, _, _, rfl, rfl, hp1, Ins.nil w, by simp, by simp [rowsN], by simp [rowsN]⟩ ?_ ?_
  · rintro i σ l hi ⟨inn, sz, ns2, x6, x7, rfl, rfl, hp2, I, hil, hr, hr1⟩
    walk_at "q"
    refine ⟨ns2, 4, rfl, rfl, hp2, by omega, by omega, fun z ns3 z0 z1 hp3 => ?_⟩
    obtain ⟨z, rfl⟩ := Int.eq_ofNat_of_zero_le z0
    walk_at "q"
    refine ⟨mulW_int (by omega) (by omega) (by omega) (by omega), ?_⟩
    rw [show (1 : Int) + (z : Int) = ((z + 1 : Nat) : Int) by omega, show ((rowsN sz).length : Int) * ((z + 1 : Nat) : Int) = (((rowsN sz).length * (z + 1) : Nat) : Int) by simp]
    split
    · rename_i h36
      refine ⟨mulW_int (by omega) (by omega) (by omega) (by omega), ?_⟩
      have hsl := I.szl
      refine ⟨by rw [natsD_len]; exact Nat.le_trans (by omega : _ ≤ 100) (by decide), ns3, most, rfl, rfl, hp3, by omega, by omega, fun y ns4 y0 y1 hp4 => ?_⟩
      obtain ⟨y, rfl⟩ := Int.eq_ofNat_of_zero_le y0
      walk_at "q"
      refine ⟨ns4, w, y + 1, z + 1, by simp; omega, rfl, hp4, w1, by omega, by omega, by omega, by omega, by omega, fun m ns5 hm hmw hmm hmo hp5 => ?_⟩
      walk_at "q"
      refine ⟨Nat.le_trans (by omega : _ ≤ 100) (by decide), inn ++ [m], sz ++ [z + 1], ns5, some (.d (.int i)), some (.d (.int (z + 1 : Nat))), ?_, rfl, hp5, I.add hm hmw hmo (by omega) (by omega), by simp; omega, by rw [rowsN_one]; omega, by rw [rowsN_one]; exact Nat.mul_pos hr1 (by omega)⟩
      rw [rowsN_one, natsD_app]
      simp [natsD]
    · exact ⟨inn, sz, ns3, _, _, rfl, rfl, hp3, I, by omega, hr, hr1⟩
  · rintro σ l ⟨inn, sz, ns2, x6, x7, rfl, rfl, hp2, I, hil, hr, hr1⟩
    walk_at "q"
    refine ⟨ns2, most, rfl, rfl, hp2, by omega, by omega, fun y ns4 y0 y1 hp4 => ?_⟩
    obtain ⟨y, rfl⟩ := Int.eq_ofNat_of_zero_le y0
    walk_at "q"
    refine ⟨ns4, 6, rfl, rfl, hp4, by omega, by omega, fun z ns5 z0 z1 hp5 => ?_⟩
    obtain ⟨z, rfl⟩ := Int.eq_ofNat_of_zero_le z0
    walk_at "q"
    refine ⟨ns5, (rowsN sz).length, y + 1, z + 1, by simp; omega, rfl, hp5, by omega, by omega, by omega, by omega, by omega, by omega, fun m ns6 hm hmw hmm hmo hp6 => ?_⟩
    walk_at "q"
    exact q m inn sz ns6 (I.fits hm (by omega) (by omega) w1 w2) (fun c hc => by have := hmo c hc; omega) hp6
theorem ok_law_counter {f : Addr} {fd : FuncData} (F : Fun K "_law_counter" "_law_counter" s_law_counter f fd) (B : Bt mg) : FnOk P w K mg base (L2.CX P w) 1 f fd ["many", "letter"] (spQ K 2 fs_law_counter) := by
  have nd := sc_law_counter.nd
  refine fun_q (k := 0) F sc_law_counter 2 rfl (fun cdv A outer s H E hr tk => (qss_cons (qs_set (i := 2) nd rfl (by first | exact Or.inl rfl | exact Or.inr rfl) (qe_lst (f := .cell) qa_nil))
    (qss_cons (qs_set (i := 3) nd rfl (by first | exact Or.inl rfl | exact Or.inr rfl) (qe_lst (f := .cell) qa_nil))
    (qss_cons (qs_for (passes_of rfl) rfl (qi_range1 (pi_range1 (by rfl) B.range (qa_cons (qe_var 0) qa_nil))) (qg_name (i := 4) nd rfl (by first | exact Or.inl rfl | exact Or.inr rfl)) (qss_one (qs_for (passes_of rfl) rfl (qi_range1 (pi_range1 (by rfl) B.range (qa_cons qe_int qa_nil))) (qg_name (i := 5) nd rfl (by first | exact Or.inl rfl | exact Or.inr rfl)) (qss_cons (qs_expr (qe_bm PySem.F.slot_list_append PySem.F.type_list_append mt_append ref_append (qe_var 2) (qa_cons (qe_ifE (QW.qt (qw_or (qt_cmp (op_eqD hr.units) ref_eq (qe_var 1) qe_int (nomark _)) (qw_or1 (qt_cmp (op_eqD hr.units) ref_eq (qe_var 1) (qe_var 5) (nomark _))))) (qe_op op_mod ref_II (qe_callTy call_int1 ref_int (by rfl) B.int (by decide +kernel) (qa_cons (qe_op op_add ref_I0 (qe_var 4) qe_int) qa_nil)) (qe_var 0)) (qe_var 4)) qa_nil)))
    (qss_one (qs_expr (qe_bm PySem.F.slot_list_append PySem.F.type_list_append mt_append ref_append (qe_var 3) (qa_cons (qe_op op_mod ref_II (qe_callTy call_int1 ref_int (by rfl) B.int (by decide +kernel) (qa_cons (qe_var 4) qa_nil)) qe_int) qa_nil))))))))
    (qss_one (qs_ret (qe_tup (qa_cons qe_int (qa_cons qe_int (qa_cons (qe_callTy call_tuple_of ref_tuple (by rfl) B.tuple (by decide +kernel) (qa_cons (qe_var 2) qa_nil)) (qa_cons (qe_callTy call_tuple_of ref_tuple (by rfl) B.tuple (by decide +kernel) (qa_cons (qe_var 3) qa_nil)) qa_nil))))))))))) (fun ds l Qd Ed hl h => ?_)
  obtain ⟨many, letter, rfl, rfl, m1, m2, q⟩ := h
  walk_at "q"
  refine ⟨by omega, by omega, ?_⟩
  refine loopR (fun i σ l => ∃ x4 x5, σ = [some (.d (.int many)), some (.d (.int letter)), some (.loc 0), some (.loc 1), x4, x5] ∧ l = [.lst (natsD ((List.range i).flatMap fun s => (List.range 2).map (cntN many letter s))), .lst (natsD ((List.range i).flatMap fun s => (List.range 2).map fun _ => s % 2))]) ⟨_, _, rfl, rfl⟩ ?_ ?_
  · rintro s σ l hi ⟨x4, x5, rfl, rfl⟩
    have hi : s < many := by omega
    have hz1 : ((List.range s).flatMap fun s => (List.range 2).map (cntN many letter s)).length = s * 2 := by rw [flat_const_len (cntN many letter) 2]; simp
    have hz2 : ((List.range s).flatMap fun s => (List.range 2).map fun _ => s % 2).length = s * 2 := by rw [flat_const_len (fun s _ => s % 2) 2]; simp
    have g1 := flat_range_succ (cntN many letter) s
    have g2 := flat_range_succ (fun s _ => s % 2) s

    rw [g1, g2]
    generalize ((List.range s).flatMap fun s => (List.range 2).map (cntN many letter s)) = A at *
    generalize ((List.range s).flatMap fun s => (List.range 2).map fun _ => s % 2) = B at *
    walk_at "q"
    refine loopR (fun i σ l => ∃ x5, σ = [some (.d (.int many)), some (.d (.int letter)), some (.loc 0), some (.loc 1), some (.d (.int s)), x5] ∧ l = [.lst (natsD (A ++ (List.range i).map (cntN many letter s))), .lst (natsD (B ++ (List.range i).map fun _ => s % 2))]) ⟨_, rfl, by simp⟩ ?_ ?_
    · rintro p σ l hp ⟨x5, rfl, rfl⟩
      have hp : p < 2 := by simpa using hp
      have hs1 : (natsD (A ++ (List.range p).map (cntN many letter s))).length < sizeLine := by
        rw [natsD_len, List.length_append, hz1]; simp
        exact Nat.lt_of_le_of_lt (by omega : _ ≤ 3000) (by decide)
      have hs2 : (natsD (B ++ (List.range p).map fun _ => s % 2)).length < sizeLine := by
        rw [natsD_len, List.length_append, hz2]; simp
        exact Nat.lt_of_le_of_lt (by omega : _ ≤ 3000) (by decide)
      walk_at "q"
      have h2 : (0 : Int) + (p : Int) = p := by omega
      have hc : cntN many letter s p = if letter = 2 ∨ letter = p then (s + 1) % many else s := rfl
      have e1 : ((s : Int) + 1) % (many : Int) = (((s + 1) % many : Nat) : Int) := by simp
      have e2 : (s : Int) % 2 = ((s % 2 : Nat) : Int) := by simp
      have r1 : natsD (A ++ (List.range (p + 1)).map (cntN many letter s)) = natsD (A ++ (List.range p).map (cntN many letter s)) ++ [D.int (cntN many letter s p)] := by
        rw [List.range_succ]; simp [natsD]
      have r2 : natsD (B ++ (List.range (p + 1)).map fun _ => s % 2) = natsD (B ++ (List.range p).map fun _ => s % 2) ++ [D.int (s % 2 : Nat)] := by
        rw [List.range_succ]; simp [natsD]
      rw [r1, r2]
      split
      · rename_i h5
        rw [hc, if_pos (.inl (by omega)), e1, e2]
        exact ⟨by omega, hs1, hs2, _, rfl, rfl⟩
      · rename_i h5
        split
        · rename_i h6
          rw [hc, if_pos (.inr (by omega)), e1, e2]
          exact ⟨by omega, hs1, hs2, _, rfl, rfl⟩
        · rename_i h6
          rw [hc, if_neg (by omega), e2]
          exact ⟨hs1, hs2, _, rfl, rfl⟩
    · rintro σ l ⟨x5, rfl, rfl⟩
      exact ⟨_, _, rfl, rfl⟩
  · rintro σ l ⟨x4, x5, rfl, rfl⟩
    walk_at "q"
    exact q
structure Cs_law_dear (P : Program) (w : World) (K : PySem.W.Frag) (mg : Str → Option Value) (base : Heap) : Prop where
  law_take : CalQ P w K mg base 1 "_law_take" 2 fs_law_take
  law_machine : CalQ P w K mg base 3 "_law_machine" 4 fs_law_machine
  law_counter : CalQ P w K mg base 1 "_law_counter" 2 fs_law_counter
theorem ok_law_dear {f : Addr} {fd : FuncData} (F : Fun K "_law_dear" "_law_dear" s_law_dear f fd) (B : Bt mg) (C : Cs_law_dear P w K mg base) : FnOk P w K mg base (L2.CX P w) 4 f fd ["purse"] (spQ K 1 fs_law_dear) := by
  have nd := sc_law_dear.nd
  refine fun_q (k := 3) F sc_law_dear 1 rfl (fun cdv A outer s H E hr tk => (qss_cons (qs_set (i := 1) nd rfl (by first | exact Or.inl rfl | exact Or.inr rfl) (qe_call C.law_take hr (by decide) tk (by rfl) (qa_cons (qe_var 0) (qa_cons qe_int qa_nil))))
    (qss_cons (qs_set (i := 2) nd rfl (by first | exact Or.inl rfl | exact Or.inr rfl) (qe_call C.law_machine hr (by decide) tk (by rfl) (qa_cons (qe_var 0) (qa_cons qe_int (qa_cons qe_int (qa_cons qe_int qa_nil))))))
    (qss_cons (qs_if (qt_cmp (op_eqD hr.units) ref_eq (qe_var 1) qe_int (nomark _)) (qss_cons (qs_set (i := 3) nd rfl (by first | exact Or.inl rfl | exact Or.inr rfl) (qe_op op_add ref_I0 qe_int (qe_call C.law_take hr (by decide) tk (by rfl) (qa_cons (qe_var 0) (qa_cons qe_int qa_nil)))))
    (qss_cons (qs_set (i := 4) nd rfl (by first | exact Or.inl rfl | exact Or.inr rfl) (qe_op op_catA ref_catT (qe_callTy call_tuple_of ref_tuple (by rfl) B.tuple (by decide +kernel) (qa_cons (qe_lc (f := .frz) (own := [("state", 5)]) rfl nd (qi_range1 (pi_range1 (by rfl) B.range (qa_cons (qe_op op_sub ref_I0 (qe_var 3) qe_int) qa_nil))) (blkOk_by (N := N_law_dear) (sc := defScope s_law_dear) (by decide +kernel)) (fun _ _ _ _ _ => (qgv_name (i := 5) (by decide) nd rfl (by first | exact Or.inl rfl | exact Or.inr rfl))) (fun _ _ _ _ _ => qts_nil) (fun _ _ _ _ _ => (qe_op op_add ref_I0 (qe_var 5) qe_int))) qa_nil)) (qe_tup (qa_cons (qe_call C.law_take hr (by decide) tk (by rfl) (qa_cons (qe_var 0) (qa_cons (qe_var 3) qa_nil))) qa_nil))))
    (qss_cons (qs_set (i := 6) nd rfl (by first | exact Or.inl rfl | exact Or.inr rfl) (qe_tup (qa_cons qe_int (qa_cons qe_int (qa_cons (qe_var 4) (qa_cons (qe_callTy call_tuple_of ref_tuple (by rfl) B.tuple (by decide +kernel) (qa_cons (qe_lc (f := .frz) (own := [("state", 5)]) rfl nd (qi_range1 (pi_range1 (by rfl) B.range (qa_cons (qe_var 3) qa_nil))) (blkOk_by (N := N_law_dear) (sc := defScope s_law_dear) (by decide +kernel)) (fun _ _ _ _ _ => (qgv_name (i := 5) (by decide) nd rfl (by first | exact Or.inl rfl | exact Or.inr rfl))) (fun _ _ _ _ _ => qts_nil) (fun _ _ _ _ _ => (qe_op op_mod ref_II (qe_callTy call_int1 ref_int (by rfl) B.int (by decide +kernel) (qa_cons (qe_var 5) qa_nil)) qe_int))) qa_nil)) qa_nil))))))
    (qss_one (qs_ret (qe_tup (qa_cons (qe_var 2) (qa_cons (qe_tup (qa_cons (qe_var 6) (qa_cons (qe_call C.law_machine hr (by decide) tk (by rfl) (qa_cons (qe_var 0) (qa_cons qe_int (qa_cons (qe_op op_add ref_I0 qe_int (qe_call C.law_take hr (by decide) tk (by rfl) (qa_cons (qe_var 0) (qa_cons qe_int qa_nil)))) (qa_cons qe_int qa_nil))))) qa_nil))) (qa_cons qe_int qa_nil))))))))) qss_nil)
    (qss_cons (qs_set (i := 7) nd rfl (by first | exact Or.inl rfl | exact Or.inr rfl) (qe_op op_add ref_I0 qe_int (qe_call C.law_take hr (by decide) tk (by rfl) (qa_cons (qe_var 0) (qa_cons qe_int qa_nil)))))
    (qss_cons (qs_if (qt_cmp (op_eqD hr.units) ref_eq (qe_var 1) qe_int (nomark _)) (qss_one (qs_set (i := 7) nd rfl (by first | exact Or.inl rfl | exact Or.inr rfl) (qe_ix (qe_tup (qa_cons qe_int (qa_cons qe_int (qa_cons qe_int (qa_cons qe_int (qa_cons qe_int (qa_cons qe_int (qa_cons qe_int (qa_cons qe_int qa_nil))))))))) (qe_call C.law_take hr (by decide) tk (by rfl) (qa_cons (qe_var 0) (qa_cons qe_int qa_nil))) (fun _ _ => rfl)))) qss_nil)
    (qss_one (qs_ret (qe_tup (qa_cons (qe_var 2) (qa_cons (qe_tup (qa_cons (qe_call C.law_counter hr (by decide) tk (by rfl) (qa_cons (qe_var 7) (qa_cons qe_int qa_nil))) (qa_cons (qe_call C.law_counter hr (by decide) tk (by rfl) (qa_cons (qe_op op_add ref_I0 (qe_op op_sub ref_I0 (qe_op op_fdiv ref_II qe_int (qe_var 7)) qe_int) (qe_call C.law_take hr (by decide) tk (by rfl) (qa_cons (qe_var 0) (qa_cons qe_int qa_nil)))) (qa_cons qe_int qa_nil))) qa_nil))) (qa_cons qe_int qa_nil)))))))))))) (fun ds l Qd Ed hl h => ?_)
  obtain ⟨ns, rfl, rfl, hp, q⟩ := h
  walk_at "q"
  refine ⟨ns, 3, rfl, rfl, hp, by omega, by omega, fun pick ns1 t0 t1 hp1 => ?_⟩
  walk_at "q"
  refine ⟨ns1, 4, 1, 3, rfl, rfl, hp1, by omega, by omega, by omega, by omega, by omega, by omega, fun o ns2 ho how hom hoo hp2 => ?_⟩
  walk_at "q"
  split
  · refine ⟨ns2, 8, rfl, rfl, hp2, by omega, by omega, fun d ns3 d0 d1 hp3 => ?_⟩
    obtain ⟨d, rfl⟩ := Int.eq_ofNat_of_zero_le d0
    walk_at "q"
    refine ⟨by omega, by omega, ?_⟩
    refine lcI (fun i acc l => acc = natsD ((List.range i).map (· + 1)) ∧ l = [.lst (ns3.map .int)]) (by rw [rangeD_len]; exact Nat.lt_of_le_of_lt (by omega : _ ≤ 1000) (by decide)) ⟨rfl, rfl⟩ ?_ ?_
    · rintro i x acc l hx ha ⟨rfl, rfl⟩
      rw [rangeD_len]
      obtain ⟨hi2, rfl⟩ := rangeD_get hx
      walk_at "q"
      refine ⟨by simp [natsD]; omega, ?_⟩
      rw [List.range_succ, List.map_append, natsD_app]
      simp [natsD]
    rintro acc l ha ⟨rfl, rfl⟩
    rw [rangeD_len, show (397 + (d : Int) - 1).toNat = 396 + d by omega]
    walk_at "q"
    refine ⟨ns3, _, rfl, rfl, hp3, by omega, by omega, fun r ns4 r0 r1 hp4 => ?_⟩
    obtain ⟨r, rfl⟩ := Int.eq_ofNat_of_zero_le r0
    walk_at "q"
    refine ⟨by rw [natsD_len]; simp; exact Nat.le_trans (by omega : _ ≤ 1000) (by decide), by omega, by omega, ?_⟩
    rw [show natsD ((List.range (396 + d)).map (· + 1)) ++ [D.int (r : Int)] = natsD ((List.range (396 + d)).map (· + 1) ++ [r]) by simp [natsD]]
    refine lcI (fun i acc l => acc = natsD ((List.range i).map (· % 2)) ∧ l = [.lst (ns4.map .int)]) (by rw [rangeD_len]; exact Nat.lt_of_le_of_lt (by omega : _ ≤ 1000) (by decide)) ⟨rfl, rfl⟩ ?_ ?_
    · rintro i x acc l hx ha ⟨rfl, rfl⟩
      rw [rangeD_len]
      obtain ⟨hi2, rfl⟩ := rangeD_get hx
      walk_at "q"
      refine ⟨by simp [natsD]; omega, ?_⟩
      rw [List.range_succ, List.map_append, natsD_app]
      simp [natsD]
    rintro acc l ha ⟨rfl, rfl⟩
    rw [rangeD_len, show (397 + (d : Int)).toNat = 397 + d by omega]
    walk_at "q"
    refine ⟨ns4, 2, rfl, rfl, hp4, by omega, by omega, fun y ns5 y0 y1 hp5 => ?_⟩
    obtain ⟨y, rfl⟩ := Int.eq_ofNat_of_zero_le y0
    walk_at "q"
    refine ⟨ns5, 1, y + 1, 2, by simp; omega, rfl, hp5, by omega, by omega, by omega, by omega, by omega, by omega, fun m ns6 hm hmw hmm hmo hp6 => ?_⟩
    walk_at "q"
    have h1 : (⟨1, 397 + d, 0, (List.range (396 + d)).map (· + 1) ++ [r], (List.range (397 + d)).map (· % 2)⟩ : Mc).ok := by
      refine ⟨Nat.le_refl _, by simp; omega, by simp, ?_, by show 0 < 397 + d; omega, by show 1 ≤ 100; decide, by show 397 + d ≤ 1000; omega⟩
      intro c hc
      show c < 397 + d
      rcases List.mem_append.mp hc with h | h
      · obtain ⟨z, hz, rfl⟩ := List.mem_map.mp h
        have := List.mem_range.mp hz
        omega
      · simp at h; omega
    have I := ((Ins.nil 1).add h1 rfl (z := 2) (fun c hc => by
      obtain ⟨z, hz, rfl⟩ := List.mem_map.mp hc
      omega) (by omega) (by omega)).add hm hmw hmo (by omega) (by omega)
    exact q o _ 1 ns6 (I.fits ho (by simp) (by rw [how]; decide) (by omega) (by omega)) hoo hp6
  · refine ⟨ns2, 20, rfl, rfl, hp2, by omega, by omega, fun d ns3 d0 d1 hp3 => ?_⟩
    obtain ⟨d, rfl⟩ := Int.eq_ofNat_of_zero_le d0
    walk_at "q"
    split
    · refine ⟨ns3, 8, rfl, rfl, hp3, by omega, by omega, fun r ns4 r0 r1 hp4 => ?_⟩
      walk_at "q"
      have : ∃ v : Nat, 1 ≤ v ∧ v ≤ 25 ∧ atI [D.int 1, D.int 20, D.int 1, D.int 16, D.int 1, D.int 25, D.int 1, D.int 8] r = some (.int (v : Int)) := by
        have h8 : r = 0 ∨ r = 1 ∨ r = 2 ∨ r = 3 ∨ r = 4 ∨ r = 5 ∨ r = 6 ∨ r = 7 := by omega
        rcases h8 with rfl | rfl | rfl | rfl | rfl | rfl | rfl | rfl
        · exact ⟨1, by omega, by omega, rfl⟩
        · exact ⟨20, by omega, by omega, rfl⟩
        · exact ⟨1, by omega, by omega, rfl⟩
        · exact ⟨16, by omega, by omega, rfl⟩
        · exact ⟨1, by omega, by omega, rfl⟩
        · exact ⟨25, by omega, by omega, rfl⟩
        · exact ⟨1, by omega, by omega, rfl⟩
        · exact ⟨8, by omega, by omega, rfl⟩
      obtain ⟨v, v1, v2, hv⟩ := this
      refine ⟨_, hv, ?_⟩
      refine ⟨v, 0, by simp, rfl, by omega, by omega, ?_⟩
      walk_at "q"
      have q4 : (400 : Int) / ((v : Nat) : Int) = ((400 / v : Nat) : Int) := by simp
      have q5 : 400 / v ≤ 400 := Nat.div_le_self _ _
      have q6 : 16 ≤ 400 / v := (Nat.le_div_iff_mul_le (by omega)).mpr (by omega)
      refine ⟨⟨by omega, by omega⟩, ns4, 3, rfl, rfl, hp4, by omega, by omega, fun y ns5 y0 y1 hp5 => ?_⟩
      obtain ⟨y, rfl⟩ := Int.eq_ofNat_of_zero_le y0
      rw [q4]
      generalize 400 / v = qq at *
      walk_at "q"
      refine ⟨qq - 1 + y, 1, by simp; omega, rfl, by omega, by omega, ?_⟩
      walk_at "q"
      have I := ((Ins.nil 2).add (cnt_ok (many := v) (letter := 0) (by omega) (by omega)) rfl cnt_out (by omega) (by omega)).add (cnt_ok (many := qq - 1 + y) (letter := 1) (by omega) (by omega)) rfl cnt_out (by omega) (by omega)
      exact q o _ 2 ns5 (I.fits ho (by simp) (by rw [how]; decide) (by omega) (by omega)) hoo hp5
    · rw [show (1 : Int) + (d : Int) = ((d + 1 : Nat) : Int) by omega]
      have v1 : 1 ≤ d + 1 := by omega
      have v2 : d + 1 ≤ 25 := by omega
      generalize d + 1 = v at *
      refine ⟨v, 0, by simp, rfl, by omega, by omega, ?_⟩
      walk_at "q"
      have q4 : (400 : Int) / ((v : Nat) : Int) = ((400 / v : Nat) : Int) := by simp
      have q5 : 400 / v ≤ 400 := Nat.div_le_self _ _
      have q6 : 16 ≤ 400 / v := (Nat.le_div_iff_mul_le (by omega)).mpr (by omega)
      refine ⟨⟨by omega, by omega⟩, ns3, 3, rfl, rfl, hp3, by omega, by omega, fun y ns5 y0 y1 hp5 => ?_⟩
      obtain ⟨y, rfl⟩ := Int.eq_ofNat_of_zero_le y0
      rw [q4]
      generalize 400 / v = qq at *
      walk_at "q"
      refine ⟨qq - 1 + y, 1, by simp; omega, rfl, by omega, by omega, ?_⟩
      walk_at "q"
      have I := ((Ins.nil 2).add (cnt_ok (many := v) (letter := 0) (by omega) (by omega)) rfl cnt_out (by omega) (by omega)).add (cnt_ok (many := qq - 1 + y) (letter := 1) (by omega) (by omega)) rfl cnt_out (by omega) (by omega)
      exact q o _ 2 ns5 (I.fits ho (by simp) (by rw [how]; decide) (by omega) (by omega)) hoo hp5
structure Cs_law_dear_holds (P : Program) (w : World) (K : PySem.W.Frag) (mg : Str → Option Value) (base : Heap) : Prop where
  law_take : CalQ P w K mg base 1 "_law_take" 2 fs_law_take
  law_row : CalQ P w K mg base 2 "_law_row" 3 fs_law_row
  law_machine : CalQ P w K mg base 3 "_law_machine" 4 fs_law_machine
  law_join : CalQ P w K mg base 3 "_law_join" 4 fs_law_join
  law_holds : CalQ P w K mg base 5 "_law_holds" 6 fs_law_holds
  law_counter : CalQ P w K mg base 1 "_law_counter" 2 fs_law_counter
  law_dear : CalQ P w K mg base 4 "_law_dear" 1 fs_law_dear
theorem ok_law_dear_holds {f : Addr} {fd : FuncData} (F : Fun K "_law_dear_holds" "_law_dear_holds" s_law_dear_holds f fd) (B : Bt mg) (C : Cs_law_dear_holds P w K mg base) : FnOk P w K mg base (L2.CX P w) 6 f fd ["purse"] (spQ K 1 fs_law_dear_holds) := by
  have nd := sc_law_dear_holds.nd
  refine fun_q (k := 5) F sc_law_dear_holds 1 rfl (fun cdv A outer s H E hr tk => (qss_cons (qs_asg (qe_call C.law_dear hr (by decide) tk (by rfl) (qa_cons (qe_var 0) qa_nil)) (qg_tup (n := 3) rfl (qgs_cons (qg_name (i := 1) nd rfl (by first | exact Or.inl rfl | exact Or.inr rfl)) (qgs_cons (qg_name (i := 2) nd rfl (by first | exact Or.inl rfl | exact Or.inr rfl)) (qgs_cons (qg_name (i := 3) nd rfl (by first | exact Or.inl rfl | exact Or.inr rfl)) qgs_nil)))))
    (qss_cons (qs_set (i := 4) nd rfl (by first | exact Or.inl rfl | exact Or.inr rfl) (qe_call C.law_join hr (by decide) tk (by rfl) (qa_cons (qe_var 1) (qa_cons (qe_var 2) (qa_cons (qe_tup (qa_cons qe_int (qa_cons qe_int qa_nil))) (qa_cons (qe_var 3) qa_nil))))))
    (qss_cons (qs_if (qt_not (qt_val (qe_call C.law_holds hr (by decide) tk (by rfl) (qa_cons (qe_var 1) (qa_cons (qe_var 2) (qa_cons (qe_tup (qa_cons qe_int (qa_cons qe_int qa_nil))) (qa_cons (qe_var 3) (qa_cons (qe_var 4) (qa_cons (qe_call C.law_row hr (by decide) tk (by rfl) (qa_cons (qe_var 0) (qa_cons qe_int (qa_cons (qe_var 3) qa_nil)))) qa_nil))))))))) (qss_one (qs_ret qe_bl)) qss_nil)
    (qss_cons (qs_set (i := 5) nd rfl (by first | exact Or.inl rfl | exact Or.inr rfl) (qe_call C.law_counter hr (by decide) tk (by rfl) (qa_cons (qe_op op_add ref_I0 qe_int (qe_call C.law_take hr (by decide) tk (by rfl) (qa_cons (qe_var 0) (qa_cons qe_int qa_nil)))) (qa_cons qe_int qa_nil))))
    (qss_cons (qs_set (i := 1) nd rfl (by first | exact Or.inl rfl | exact Or.inr rfl) (qe_call C.law_machine hr (by decide) tk (by rfl) (qa_cons (qe_var 0) (qa_cons qe_int (qa_cons (qe_op op_add ref_I0 qe_int (qe_call C.law_take hr (by decide) tk (by rfl) (qa_cons (qe_var 0) (qa_cons qe_int qa_nil)))) (qa_cons qe_int qa_nil))))))
    (qss_cons (qs_set (i := 4) nd rfl (by first | exact Or.inl rfl | exact Or.inr rfl) (qe_call C.law_join hr (by decide) tk (by rfl) (qa_cons (qe_var 1) (qa_cons (qe_tup (qa_cons (qe_var 5) (qa_cons (qe_var 5) qa_nil))) (qa_cons (qe_tup (qa_cons qe_int (qa_cons qe_int qa_nil))) (qa_cons qe_int qa_nil))))))
    (qss_one (qs_ret (qe_and (qe_cmp (op_notN) ref_notN (qe_var 4) qe_non (nomark _)) (qe_one (qe_call C.law_holds hr (by decide) tk (by rfl) (qa_cons (qe_var 1) (qa_cons (qe_tup (qa_cons (qe_var 5) (qa_cons (qe_var 5) qa_nil))) (qa_cons (qe_tup (qa_cons qe_int (qa_cons qe_int qa_nil))) (qa_cons qe_int (qa_cons (qe_var 4) (qa_cons (qe_call C.law_row hr (by decide) tk (by rfl) (qa_cons (qe_var 0) (qa_cons qe_int (qa_cons qe_int qa_nil)))) qa_nil)))))))))))))))))) (fun ds l Qd Ed hl h => ?_)
  obtain ⟨ns, rfl, rfl, hp, q⟩ := h
  walk_at "q"
  refine ⟨ns, rfl, rfl, hp, fun o inn w ns1 F ho hp1 => ?_⟩
  walk_at "q"
  refine ⟨o, inn, [2, 2], w, rfl, rfl, F, ?_⟩
  have hw1 := F.w1
  have hw2 := F.w2
  walk_at "q"
  refine ⟨ns1, 20, w, rfl, rfl, hp1, by omega, by omega, by omega, fun rs ns2 rl rr hp2 => ?_⟩
  obtain ⟨ws, e1, e2, e3⟩ := nats_of rr
  rw [e1]
  walk_at "q"
  refine ⟨o, inn, [2, 2], w, ws, rfl, rfl, F, fun c hc => by have := ho c hc; omega, fun x hx => by have := e3 x hx; omega, by omega, ?_⟩
  walk_at "q"
  refine ⟨ns2, 20, rfl, rfl, hp2, by omega, by omega, fun d ns3 d0 d1 hp3 => ?_⟩
  obtain ⟨d, rfl⟩ := Int.eq_ofNat_of_zero_le d0
  walk_at "q"
  refine ⟨21 + d, 2, by simp, rfl, by omega, by omega, ?_⟩
  walk_at "q"
  refine ⟨ns3, 2, rfl, rfl, hp3, by omega, by omega, fun y ns4 y0 y1 hp4 => ?_⟩
  obtain ⟨y, rfl⟩ := Int.eq_ofNat_of_zero_le y0
  walk_at "q"
  refine ⟨ns4, 4, y + 1, 3, by simp; omega, rfl, hp4, by omega, by omega, by omega, by omega, by omega, by omega, fun o2 ns5 ho2 how2 hom2 hoo2 hp5 => ?_⟩
  have hc := cnt_ok (many := 21 + d) (letter := 2) (by omega) (by omega)
  have hcm : (cnt (21 + d) 2).many = 21 + d := rfl
  have I := ((Ins.nil 2).add hc rfl cnt_out (by omega) (by omega)).add hc rfl cnt_out (by omega) (by omega)
  have F2 : Fits o2 [cnt (21 + d) 2, cnt (21 + d) 2] [2, 2] 2 := I.fits ho2 (by simp) (by rw [how2]; decide) (by omega) (by omega)
  have hmm : o2.many * (cnt (21 + d) 2).many < 400 := by
    rw [hom2, hcm]
    have : (y + 1) * (21 + d) ≤ 2 * 40 := Nat.mul_le_mul (by omega) (by omega)
    omega
  obtain ⟨J, hJ⟩ := twin_some F2 hmm
  have hdue : dueD o2 [cnt (21 + d) 2, cnt (21 + d) 2] [2, 2] 2 = mcD (jm 2 J) := by unfold dueD; rw [hJ]
  generalize cnt (21 + d) 2 = tw at *
  walk_at "q"
  refine ⟨o2, [tw, tw], [2, 2], 2, rfl, rfl, F2, ?_⟩
  walk_at "q"
  rw [hdue, if_pos (by show false = false; rfl)]
  refine ⟨ns5, 50, 2, rfl, rfl, hp5, by omega, by omega, by omega, fun rs ns6 rl rr hp6 => ?_⟩
  obtain ⟨ws, e1, e2, e3⟩ := nats_of rr
  rw [e1]
  walk_at "q"
  refine ⟨o2, [tw, tw], [2, 2], 2, ws, by rw [hdue]; rfl, rfl, F2, fun c hc => by have := hoo2 c hc; omega, fun x hx => by have := e3 x hx; omega, by omega, ?_⟩
  walk_at "q"
  exact q _ hp6
structure Cs_law (P : Program) (w : World) (K : PySem.W.Frag) (mg : Str → Option Value) (base : Heap) : Prop where
  run_machine : CalQ P w K mg base 1 "run_machine" 2 fs_run_machine
  law_purse : CalQ P w K mg base 2 "_law_purse" 1 fs_law_purse
  law_take : CalQ P w K mg base 1 "_law_take" 2 fs_law_take
  law_row : CalQ P w K mg base 2 "_law_row" 3 fs_law_row
  law_truth : CalQ P w K mg base 1 "_law_truth" 1 fs_law_truth
  law_machine : CalQ P w K mg base 3 "_law_machine" 4 fs_law_machine
  law_shown : CalQ P w K mg base 1 "_law_shown" 2 fs_law_shown
  law_judged : CalQ P w K mg base 5 "_law_judged" 3 fs_law_judged
  law_join : CalQ P w K mg base 3 "_law_join" 4 fs_law_join
  law_holds : CalQ P w K mg base 5 "_law_holds" 6 fs_law_holds
  law_case : CalQ P w K mg base 4 "_law_case" 3 fs_law_case
  law_dear_holds : CalQ P w K mg base 6 "_law_dear_holds" 1 fs_law_dear_holds
theorem ok_law {f : Addr} {fd : FuncData} (F : Fun K "law" "law" s_law f fd) (B : Bt mg) (C : Cs_law P w K mg base) : FnOk P w K mg base (L2.CX P w) 7 f fd ["script"] (spQ K 1 fs_law) := by
  have nd := sc_law.nd
  refine fun_q (k := 6) F sc_law 1 rfl (fun cdv A outer s H E hr tk => (qss_cons (qs_set (i := 1) nd rfl (by first | exact Or.inl rfl | exact Or.inr rfl) (qe_call C.law_purse hr (by decide) tk (by rfl) (qa_cons (qe_var 0) qa_nil)))
    (qss_cons (qs_set (i := 2) nd rfl (by first | exact Or.inl rfl | exact Or.inr rfl) (qe_op op_add ref_I0 qe_int (qe_call C.law_take hr (by decide) tk (by rfl) (qa_cons (qe_var 1) (qa_cons qe_int qa_nil)))))
    (qss_cons (qs_set (i := 3) nd rfl (by first | exact Or.inl rfl | exact Or.inr rfl) (qe_op op_add ref_I0 qe_int (qe_call C.law_take hr (by decide) tk (by rfl) (qa_cons (qe_var 1) (qa_cons qe_int qa_nil)))))
    (qss_cons (qs_set (i := 4) nd rfl (by first | exact Or.inl rfl | exact Or.inr rfl) (qe_call C.law_machine hr (by decide) tk (by rfl) (qa_cons (qe_var 1) (qa_cons (qe_var 2) (qa_cons (qe_op op_add ref_I0 qe_int (qe_call C.law_take hr (by decide) tk (by rfl) (qa_cons (qe_var 1) (qa_cons qe_int qa_nil)))) (qa_cons (qe_var 3) qa_nil))))))
    (qss_cons (qs_set (i := 5) nd rfl (by first | exact Or.inl rfl | exact Or.inr rfl) (qe_call C.law_row hr (by decide) tk (by rfl) (qa_cons (qe_var 1) (qa_cons (qe_call C.law_take hr (by decide) tk (by rfl) (qa_cons (qe_var 1) (qa_cons qe_int qa_nil))) (qa_cons (qe_var 2) qa_nil)))))
    (qss_cons (qs_set (i := 6) nd rfl (by first | exact Or.inl rfl | exact Or.inr rfl) (qe_call C.run_machine hr (by decide) tk (by rfl) (qa_cons (qe_var 4) (qa_cons (qe_var 5) qa_nil))))
    (qss_cons (qs_if (QW.qt (qw_or (qt_cmp (op_neD hr.units) ref_ne (qe_var 6) (qe_call C.law_shown hr (by decide) tk (by rfl) (qa_cons (qe_var 4) (qa_cons (qe_var 5) qa_nil))) (nomark _)) (qw_or (qt_val (qe_call C.law_truth hr (by decide) tk (by rfl) (qa_cons (qe_var 6) qa_nil))) (qw_or1 (qt_cmp (op_neD hr.units) ref_ne (qe_call C.run_machine hr (by decide) tk (by rfl) (qa_cons (qe_var 4) (qa_cons (qe_tup qa_nil) qa_nil))) (qe_tup qa_nil) (nomark _)))))) (qss_one (qs_ret qe_bl)) qss_nil)
    (qss_cons (qs_if (qt_not (qt_val (qe_call C.law_judged hr (by decide) tk (by rfl) (qa_cons (qe_var 1) (qa_cons (qe_var 4) (qa_cons (qe_var 3) qa_nil)))))) (qss_one (qs_ret qe_bl)) qss_nil)
    (qss_cons (qs_asg (qe_call C.law_case hr (by decide) tk (by rfl) (qa_cons (qe_var 1) (qa_cons (qe_var 2) (qa_cons qe_int qa_nil)))) (qg_tup (n := 3) rfl (qgs_cons (qg_name (i := 7) nd rfl (by first | exact Or.inl rfl | exact Or.inr rfl)) (qgs_cons (qg_name (i := 8) nd rfl (by first | exact Or.inl rfl | exact Or.inr rfl)) (qgs_cons (qg_name (i := 9) nd rfl (by first | exact Or.inl rfl | exact Or.inr rfl)) qgs_nil)))))
    (qss_cons (qs_set (i := 10) nd rfl (by first | exact Or.inl rfl | exact Or.inr rfl) (qe_call C.law_join hr (by decide) tk (by rfl) (qa_cons (qe_var 7) (qa_cons (qe_var 8) (qa_cons (qe_var 9) (qa_cons (qe_var 2) qa_nil))))))
    (qss_cons (qs_if (qt_not (qt_val (qe_call C.law_holds hr (by decide) tk (by rfl) (qa_cons (qe_var 7) (qa_cons (qe_var 8) (qa_cons (qe_var 9) (qa_cons (qe_var 2) (qa_cons (qe_var 10) (qa_cons (qe_var 5) qa_nil))))))))) (qss_one (qs_ret qe_bl)) qss_nil)
    (qss_cons (qs_if (qt_cmp (op_notN) ref_notN (qe_var 10) qe_non (nomark _)) (qss_cons (qs_set (i := 11) nd rfl (by first | exact Or.inl rfl | exact Or.inr rfl) (qe_call C.law_machine hr (by decide) tk (by rfl) (qa_cons (qe_var 1) (qa_cons (qe_op op_mul ref_II qe_int (qe_var 3)) (qa_cons (qe_op op_add ref_I0 qe_int (qe_call C.law_take hr (by decide) tk (by rfl) (qa_cons (qe_var 1) (qa_cons qe_int qa_nil)))) (qa_cons (qe_op op_add ref_I0 qe_int (qe_call C.law_take hr (by decide) tk (by rfl) (qa_cons (qe_var 1) (qa_cons qe_int qa_nil)))) qa_nil))))))
    (qss_cons (qs_set (i := 12) nd rfl (by first | exact Or.inl rfl | exact Or.inr rfl) (qe_call C.law_join hr (by decide) tk (by rfl) (qa_cons (qe_var 11) (qa_cons (qe_tup (qa_cons (qe_var 10) (qa_cons (qe_var 4) qa_nil))) (qa_cons (qe_tup (qa_cons qe_int (qa_cons (qe_var 3) qa_nil))) (qa_cons (qe_var 2) qa_nil))))))
    (qss_one (qs_if (qt_not (qt_val (qe_call C.law_holds hr (by decide) tk (by rfl) (qa_cons (qe_var 11) (qa_cons (qe_tup (qa_cons (qe_var 10) (qa_cons (qe_var 4) qa_nil))) (qa_cons (qe_tup (qa_cons qe_int (qa_cons (qe_var 3) qa_nil))) (qa_cons (qe_var 2) (qa_cons (qe_var 12) (qa_cons (qe_var 5) qa_nil))))))))) (qss_one (qs_ret qe_bl)) qss_nil)))) qss_nil)
    (qss_cons (qs_if (qt_cmp (op_eqD hr.units) ref_eq (qe_call C.law_take hr (by decide) tk (by rfl) (qa_cons (qe_var 1) (qa_cons qe_int qa_nil))) qe_int (nomark _)) (qss_cons (qs_asg (qe_call C.law_case hr (by decide) tk (by rfl) (qa_cons (qe_var 1) (qa_cons qe_int (qa_cons qe_int qa_nil)))) (qg_tup (n := 3) rfl (qgs_cons (qg_name (i := 13) nd rfl (by first | exact Or.inl rfl | exact Or.inr rfl)) (qgs_cons (qg_name (i := 14) nd rfl (by first | exact Or.inl rfl | exact Or.inr rfl)) (qgs_cons (qg_name (i := 6) nd rfl (by first | exact Or.inl rfl | exact Or.inr rfl)) qgs_nil)))))
    (qss_one (qs_if (qt_not (qt_val (qe_call C.law_holds hr (by decide) tk (by rfl) (qa_cons (qe_var 13) (qa_cons (qe_var 14) (qa_cons (qe_var 6) (qa_cons qe_int (qa_cons (qe_call C.law_join hr (by decide) tk (by rfl) (qa_cons (qe_var 13) (qa_cons (qe_var 14) (qa_cons (qe_var 6) (qa_cons qe_int qa_nil))))) (qa_cons (qe_call C.law_row hr (by decide) tk (by rfl) (qa_cons (qe_var 1) (qa_cons qe_int (qa_cons qe_int qa_nil)))) qa_nil))))))))) (qss_one (qs_ret qe_bl)) qss_nil))) qss_nil)
    (qss_cons (qs_if (QW.qt (qw_and (qt_cmp (op_eqD hr.units) ref_eq (qe_call C.law_take hr (by decide) tk (by rfl) (qa_cons (qe_var 1) (qa_cons qe_int qa_nil))) qe_int (nomark _)) (qw_and1 (qt_not (qt_val (qe_call C.law_dear_holds hr (by decide) tk (by rfl) (qa_cons (qe_var 1) qa_nil))))))) (qss_one (qs_ret qe_bl)) qss_nil)
    (qss_one (qs_ret (qe_call C.law_holds hr (by decide) tk (by rfl) (qa_cons (qe_var 7) (qa_cons (qe_var 8) (qa_cons (qe_var 9) (qa_cons (qe_var 2) (qa_cons (qe_var 10) (qa_cons (qe_var 5) qa_nil)))))))))))))))))))))))) (fun ds l Qd Ed hl h => ?_)
  obtain ⟨ns, rfl, rfl, hn, q⟩ := h
  walk_at "q"
  refine ⟨ns, rfl, rfl, hn, fun ns1 l1 p1 => ?_⟩
  have hp1 : Pur ns1 := ⟨l1, p1⟩
  walk_at "q"
  refine ⟨ns1, 5, rfl, rfl, hp1, by omega, by omega, fun w ns2 w0 w1 hp2 => ?_⟩
  obtain ⟨w, rfl⟩ := Int.eq_ofNat_of_zero_le w0
  walk_at "q"
  rw [show (1 : Int) + (w : Int) = ((w + 1 : Nat) : Int) by omega]
  have w1 : w + 1 ≤ 5 := by omega
  have w0 : 1 ≤ w + 1 := by omega
  generalize w + 1 = w at *
  refine ⟨ns2, 4, rfl, rfl, hp2, by omega, by omega, fun size ns3 s0 s1 hp3 => ?_⟩
  obtain ⟨size, rfl⟩ := Int.eq_ofNat_of_zero_le s0
  walk_at "q"
  rw [show (1 : Int) + (size : Int) = ((size + 1 : Nat) : Int) by omega]
  have s1 : size + 1 ≤ 4 := by omega
  have s0 : 1 ≤ size + 1 := by omega
  generalize size + 1 = size at *
  refine ⟨ns3, 6, rfl, rfl, hp3, by omega, by omega, fun y ns4 y0 y1 hp4 => ?_⟩
  obtain ⟨y, rfl⟩ := Int.eq_ofNat_of_zero_le y0
  walk_at "q"
  refine ⟨ns4, w, y + 1, size, by simp; omega, rfl, hp4, by omega, by omega, by omega, by omega, by omega, by omega, fun m ns5 hm hmw hmm hmo hp5 => ?_⟩
  walk_at "q"
  refine ⟨ns5, 13, rfl, rfl, hp5, by omega, by omega, fun k ns6 k0 k1 hp6 => ?_⟩
  obtain ⟨k, rfl⟩ := Int.eq_ofNat_of_zero_le k0
  walk_at "q"
  refine ⟨ns6, k, w, rfl, rfl, hp6, by omega, by omega, by omega, fun rs ns7 rl rr hp7 => ?_⟩
  obtain ⟨ws, e1, e2, e3⟩ := nats_of rr
  have hww : ∀ x ∈ ws, x < w := fun x hx => by have := e3 x hx; omega
  have hrl := m.run_len m.s ws
  have hmb := hm.2.2.2.2.2
  have hn1 : m.nx.length ≤ 24 * 6 := by rw [hm.2.1, hmw, hmm]; exact Nat.le_trans (Nat.mul_le_mul (by omega : y + 1 ≤ 6) w1) (by decide)
  have hn2 : m.ou.length ≤ 24 * 6 := by rw [hm.2.2.1, hmw, hmm]; exact Nat.le_trans (Nat.mul_le_mul (by omega : y + 1 ≤ 6) w1) (by decide)
  have hn3 : 1 ≤ m.nx.length := by rw [hm.2.1, hmw, hmm]; exact Nat.mul_pos (by omega) (by omega)
  rw [e1]
  walk_at "q"
  refine ⟨m, ws, rfl, rfl, hm, by rw [hmw]; exact hww, by omega, ?_⟩
  walk_at "q"
  refine ⟨m, ws, .inl rfl, rfl, hm, by rw [hmw]; exact hww, by omega, ?_⟩
  walk_at "q"
  refine ⟨dOk_nats.mpr trivial, dOk_nats.mpr trivial, ?_⟩
  rw [D.eqv_self (noB_nats.mpr trivial)]
  walk_at "q"
  refine ⟨_, rfl, rfl, noB_nats.mpr trivial, by simp only [D.sz, szs_nats]; omega, ?_⟩
  walk_at "q"
  refine ⟨m, [], rfl, rfl, hm, by simp, by simp, ?_⟩
  rw [show m.run m.s [] = [] from rfl, show natsD [] = [] from rfl]
  walk_at "q"
  rw [show (D.tup []).eqv (D.tup []) = true from rfl]
  walk_at "q"
  refine ⟨ns7, m.w, m.s, m.nx.map fun (n : Nat) => (n : Int), m.ou.map fun (n : Nat) => (n : Int), size, by rw [mcD_mD], rfl, hp7, by omega, by omega, by simpa using hn3, by simp; omega, by simp; omega, by omega, fun ns8 hp8 => ?_⟩
  walk_at "q"
  refine ⟨ns8, w, 4, rfl, rfl, hp8, by omega, by omega, by omega, by omega, fun o inn sz ns9 F ho hp9 => ?_⟩
  walk_at "q"
  refine ⟨o, inn, sz, w, rfl, rfl, F, ?_⟩
  walk_at "q"
  refine ⟨o, inn, sz, w, ws, rfl, rfl, F, ho, hww, by omega, ?_⟩
  walk_at "q"
  cases hJ : joinJ (fJ o inn sz) w (startN o inn) with
  | none =>
    have hdue : dueD o inn sz w = .non := by unfold dueD; rw [hJ]
    rw [if_neg (by rw [hdue]; show ¬ (true = false); decide)]
    refine ⟨ns9, 16, rfl, rfl, hp9, by omega, by omega, fun g nsC g0 g1 hpC => ?_⟩
    walk_at "q"
    split
    · refine ⟨nsC, 24, 6, rfl, rfl, hpC, by omega, by omega, by omega, by omega, fun o' inn' sz' nsD F' ho' hpD => ?_⟩
      walk_at "q"
      refine ⟨o', inn', sz', 24, rfl, rfl, F', ?_⟩
      walk_at "q"
      refine ⟨nsD, 8, 24, rfl, rfl, hpD, by omega, by omega, by omega, fun rs nsE rl rr hpE => ?_⟩
      obtain ⟨us, f1, f2, f3⟩ := nats_of rr
      rw [f1]
      walk_at "q"
      refine ⟨o', inn', sz', 24, us, rfl, rfl, F', ho', fun x hx => by have := f3 x hx; omega, by omega, ?_⟩
      walk_at "q"
      refine ⟨nsE, 2, rfl, rfl, hpE, by omega, by omega, fun g2 nsA g0 g1 hpA => ?_⟩
      walk_at "q"
      split
      · refine ⟨nsA, rfl, rfl, hpA, fun nsB hpB => ?_⟩
        walk_at "q"
        refine ⟨o, inn, sz, w, ws, rfl, rfl, F, ho, hww, by omega, ?_⟩
        walk_at "q"
        exact q
      · refine ⟨o, inn, sz, w, ws, rfl, rfl, F, ho, hww, by omega, ?_⟩
        walk_at "q"
        exact q
    · refine ⟨nsC, 2, rfl, rfl, hpC, by omega, by omega, fun g2 nsA g0 g1 hpA => ?_⟩
      walk_at "q"
      split
      · refine ⟨nsA, rfl, rfl, hpA, fun nsB hpB => ?_⟩
        walk_at "q"
        refine ⟨o, inn, sz, w, ws, rfl, rfl, F, ho, hww, by omega, ?_⟩
        walk_at "q"
        exact q
      · refine ⟨o, inn, sz, w, ws, rfl, rfl, F, ho, hww, by omega, ?_⟩
        walk_at "q"
        exact q
  | some J =>
    have hdue : dueD o inn sz w = mcD (jm w J) := by unfold dueD; rw [hJ]
    rw [if_pos (by rw [hdue]; show false = false; rfl)]
    have I1 := joinJ_ok hJ
    have hok := jm_ok I1 F.w1 (by have := F.w2; omega)
    have hV := joinJ_all (okSt_next F) (okSt_start F) hJ
    have hout := jm_out I1 hV (fJ_out F ho)
    refine ⟨ns9, 2, rfl, rfl, hp9, by omega, by omega, fun u ns10 u0 u1 hp10 => ?_⟩
    obtain ⟨u, rfl⟩ := Int.eq_ofNat_of_zero_le u0
    walk_at "q"
    refine ⟨ns10, 6, rfl, rfl, hp10, by omega, by omega, fun v ns11 v0 v1 hp11 => ?_⟩
    obtain ⟨v, rfl⟩ := Int.eq_ofNat_of_zero_le v0
    walk_at "q"
    refine ⟨ns11, 6 * size, u + 1, v + 1, by simp; omega, rfl, hp11, by omega, by omega, by omega, by omega, by omega, by omega, fun fm ns12 hf hfw hfm hfo hp12 => ?_⟩
    have I2 := ((Ins.nil w).add hok rfl hout (by omega) (by omega)).add hm hmw hmo (by omega) (by omega)
    have F2 : Fits fm [jm w J, m] [6, size] w := I2.fits hf (by simp) (by
      rw [hfw]
      have r1 := rowsN_one ([] ++ [6]) size
      have r2 := rowsN_one [] 6
      rw [r2] at r1
      rw [r1]
      simp [rowsN]) (by omega) (by omega)
    have hfo6 : ∀ c ∈ fm.ou, c < 6 := fun c hc => by have := hfo c hc; omega
    walk_at "q"
    refine ⟨fm, [jm w J, m], [6, size], w, by rw [hdue]; rfl, rfl, F2, ?_⟩
    walk_at "q"
    refine ⟨fm, [jm w J, m], [6, size], w, ws, by rw [hdue]; rfl, rfl, F2, hfo6, hww, by omega, ?_⟩
    walk_at "q"
    refine ⟨ns12, 16, rfl, rfl, hp12, by omega, by omega, fun g nsC g0 g1 hpC => ?_⟩
    walk_at "q"
    split
    · refine ⟨nsC, 24, 6, rfl, rfl, hpC, by omega, by omega, by omega, by omega, fun o' inn' sz' nsD F' ho' hpD => ?_⟩
      walk_at "q"
      refine ⟨o', inn', sz', 24, rfl, rfl, F', ?_⟩
      walk_at "q"
      refine ⟨nsD, 8, 24, rfl, rfl, hpD, by omega, by omega, by omega, fun rs nsE rl rr hpE => ?_⟩
      obtain ⟨us, f1, f2, f3⟩ := nats_of rr
      rw [f1]
      walk_at "q"
      refine ⟨o', inn', sz', 24, us, rfl, rfl, F', ho', fun x hx => by have := f3 x hx; omega, by omega, ?_⟩
      walk_at "q"
      refine ⟨nsE, 2, rfl, rfl, hpE, by omega, by omega, fun g2 nsA g0 g1 hpA => ?_⟩
      walk_at "q"
      split
      · refine ⟨nsA, rfl, rfl, hpA, fun nsB hpB => ?_⟩
        walk_at "q"
        refine ⟨o, inn, sz, w, ws, rfl, rfl, F, ho, hww, by omega, ?_⟩
        walk_at "q"
        exact q
      · refine ⟨o, inn, sz, w, ws, rfl, rfl, F, ho, hww, by omega, ?_⟩
        walk_at "q"
        exact q
    · refine ⟨nsC, 2, rfl, rfl, hpC, by omega, by omega, fun g2 nsA g0 g1 hpA => ?_⟩
      walk_at "q"
      split
      · refine ⟨nsA, rfl, rfl, hpA, fun nsB hpB => ?_⟩
        walk_at "q"
        refine ⟨o, inn, sz, w, ws, rfl, rfl, F, ho, hww, by omega, ?_⟩
        walk_at "q"
        exact q
      · refine ⟨o, inn, sz, w, ws, rfl, rfl, F, ho, hww, by omega, ?_⟩
        walk_at "q"
        exact q
end
abbrev m_TooMany : Stmt := methS (top 7) 0
theorem g_TooMany : ∃ q1 q2 q3 q4, SupT m_TooMany ["self", "limit"] ["self", "limit"] [.Assign [.Attribute (.Name "self" q1) "limit" q2] (.Name "limit" q3) q4] :=
  ⟨_, _, _, _, ⟨_, _, _, _, _, _, _, _, rfl, fun env => ⟨_, rfl⟩⟩, ⟨rfl, rfl, rfl, by decide +kernel, rfl, by decide +kernel, by decide +kernel, by decide +kernel, rfl, rfl⟩, ⟨_, rfl, rfl⟩⟩
set_option maxHeartbeats 0 in
theorem all_mk {l : PySem.W.OpenLaw} {w : World} {K : PySem.W.Frag} {h : Heap} {mg : Str → Option Value} {fa f0 f1 f2 f3 f4 f5 f6 f7 f8 f9 f10 f11 f12 f13 f14 f15 f16 f17 f18 f19 f20 f21 f22 f23 f24 f25 f26 f27 f28 : Addr} (X : K.In h) (G : h.Ns mainGlobals mg) (hfa : mg "law" = some (.ref fa))
    {od0 an0 od1 an1 od2 an2 od3 an3 od4 an4 od5 an5 od6 an6 od7 an7 od8 an8 od9 an9 od10 an10 od11 an11 od12 an12 od13 an13 od14 an14 od15 an15 od16 an16 od17 an17 od18 an18 od19 an19 od20 an20 od21 an21 od22 an22 od23 an23 od24 an24 od25 an25 od26 an26 od27 an27 od28 an28 : Option Addr} {sl0 sl1 sl2 sl3 sl4 sl5 sl6 sl7 sl8 sl9 sl10 sl11 sl12 sl13 sl14 sl15 sl16 sl17 sl18 sl19 sl20 sl21 sl22 sl23 sl24 sl25 sl26 sl27 sl28 : Array (Option Value)} {oc0 kV0 dc0 pm0 cd0 ct0 oc1 kV1 dc1 pm1 cd1 ct1 oc2 kV2 dc2 pm2 cd2 ct2 oc3 kV3 dc3 pm3 cd3 ct3 oc4 kV4 dc4 pm4 cd4 ct4 oc5 kV5 dc5 pm5 cd5 ct5 oc6 kV6 dc6 pm6 cd6 ct6 oc7 kV7 dc7 pm7 cd7 ct7 oc8 kV8 dc8 pm8 cd8 ct8 oc9 kV9 dc9 pm9 cd9 ct9 oc10 kV10 dc10 pm10 cd10 ct10 oc11 kV11 dc11 pm11 cd11 ct11 oc12 kV12 dc12 pm12 cd12 ct12 oc13 kV13 dc13 pm13 cd13 ct13 oc14 kV14 dc14 pm14 cd14 ct14 oc15 kV15 dc15 pm15 cd15 ct15 oc16 kV16 dc16 pm16 cd16 ct16 oc17 kV17 dc17 pm17 cd17 ct17 oc18 kV18 dc18 pm18 cd18 ct18 oc19 kV19 dc19 pm19 cd19 ct19 oc20 kV20 dc20 pm20 cd20 ct20 oc21 kV21 dc21 pm21 cd21 ct21 oc22 kV22 dc22 pm22 cd22 ct22 oc23 kV23 dc23 pm23 cd23 ct23 oc24 kV24 dc24 pm24 cd24 ct24 oc25 kV25 dc25 pm25 cd25 ct25 oc26 kV26 dc26 pm26 cd26 ct26 oc27 kV27 dc27 pm27 cd27 ct27 oc28 kV28 dc28 pm28 cd28 ct28 : Value}
    {C0 : Addr}
    (aC0 : PySem.W.nsIn K mainGlobals "TooMany" = some (some (.ref C0)))
    {fI0 cda0 cc0 : Addr} {xoc0 xkV0 xdc0 xpm0 xct0 ccl0 xcl0 : Value} {xod0 xan0 cdd0 cld0 : Option Addr} {xsl0 csl0 ccs0 : Array (Option Value)} {vs0 : Array Value} {file0 : Str} {tf0 : Tok}
    (bC0 : clsB K C0 = true)
    (iC0 : PySem.W.findIn K (.ref C0) "__init__" = some (some (.ref fI0)))
    (tI0 : PySem.W.typeIn K (.ref fI0) = some (.type "function"))
    (lI0 : K.lookup fI0 = some ⟨xoc0, xod0, .func (PySem.W.ksFn "__init__" "TooMany.__init__" (defArgs m_TooMany) (defBody m_TooMany) (defScope m_TooMany) .none xkV0 xdc0 xpm0 xan0 (.ref cda0) xct0 cc0), xsl0⟩)
    (cI0 : PySem.W.codeIn K (.ref cda0) "TooMany.__init__" = true)
    (dI0 : K.lookup cda0 = some ⟨ccl0, cdd0, .fields vs0, ccs0⟩)
    (vI0 : vs0[2]? = some (.str file0 tf0))
    (eI0 : ((l.prog.main.file : Str) == file0) = true)
    (kI0 : K.lookup cc0 = some ⟨xcl0, cld0, .cell (some (.ref C0)), csl0⟩)
    (sI0 : PySem.W.ks_superIn K C0 C0 "__init__" = some (some (.builtin "ValueError.__init__")))
    (bI0 : PySem.W.subIn K (.ref C0) (.type "ValueError") = some true)
    (n0_limit : PySem.W.findIn K (.ref C0) "limit" = some none)
    (hI : (l.prog.main.scope.names.lookup ("super" : Str)).isSome = false)
    (oI : PySem.W.nsIn K cStatics "thirdparty.any" = some none)
    (zI : PySem.W.nsIn K mainGlobals "super" = some none)
    (x0_0 : PySem.W.exmOne K (.ref C0) (.ref C0) = some true)
    {gu0 : Value}
    (gc0 : PySem.W.nsIn K mainGlobals "MOST_JOINED" = some (some gu0))
    (gr0 : RelV (.int 400) gu0)
    (a0 : PySem.W.nsIn K mainGlobals "run_machine" = some (some (.ref f0)))
    (l0 : K.lookup f0 = some ⟨oc0, od0, .func (PySem.W.fnOf "run_machine" "run_machine" (defArgs s_run_machine) (defBody s_run_machine) (defScope s_run_machine) .none kV0 dc0 pm0 an0 cd0 ct0), sl0⟩)
    (c0 : PySem.W.codeIn K cd0 "run_machine" = true)
    (k0 : PySem.W.keepIn K (.ref f0) = true)
    (a1 : PySem.W.nsIn K mainGlobals "_law_mixed" = some (some (.ref f1)))
    (l1 : K.lookup f1 = some ⟨oc1, od1, .func (PySem.W.fnOf "_law_mixed" "_law_mixed" (defArgs s_law_mixed) (defBody s_law_mixed) (defScope s_law_mixed) .none kV1 dc1 pm1 an1 cd1 ct1), sl1⟩)
    (c1 : PySem.W.codeIn K cd1 "_law_mixed" = true)
    (k1 : PySem.W.keepIn K (.ref f1) = true)
    (a2 : PySem.W.nsIn K mainGlobals "_law_purse" = some (some (.ref f2)))
    (l2 : K.lookup f2 = some ⟨oc2, od2, .func (PySem.W.fnOf "_law_purse" "_law_purse" (defArgs s_law_purse) (defBody s_law_purse) (defScope s_law_purse) .none kV2 dc2 pm2 an2 cd2 ct2), sl2⟩)
    (c2 : PySem.W.codeIn K cd2 "_law_purse" = true)
    (k2 : PySem.W.keepIn K (.ref f2) = true)
    (a3 : PySem.W.nsIn K mainGlobals "_law_take" = some (some (.ref f3)))
    (l3 : K.lookup f3 = some ⟨oc3, od3, .func (PySem.W.fnOf "_law_take" "_law_take" (defArgs s_law_take) (defBody s_law_take) (defScope s_law_take) .none kV3 dc3 pm3 an3 cd3 ct3), sl3⟩)
    (c3 : PySem.W.codeIn K cd3 "_law_take" = true)
    (k3 : PySem.W.keepIn K (.ref f3) = true)
    (a4 : PySem.W.nsIn K mainGlobals "_law_row" = some (some (.ref f4)))
    (l4 : K.lookup f4 = some ⟨oc4, od4, .func (PySem.W.fnOf "_law_row" "_law_row" (defArgs s_law_row) (defBody s_law_row) (defScope s_law_row) .none kV4 dc4 pm4 an4 cd4 ct4), sl4⟩)
    (c4 : PySem.W.codeIn K cd4 "_law_row" = true)
    (k4 : PySem.W.keepIn K (.ref f4) = true)
    (a5 : PySem.W.nsIn K mainGlobals "_law_truth" = some (some (.ref f5)))
    (l5 : K.lookup f5 = some ⟨oc5, od5, .func (PySem.W.fnOf "_law_truth" "_law_truth" (defArgs s_law_truth) (defBody s_law_truth) (defScope s_law_truth) .none kV5 dc5 pm5 an5 cd5 ct5), sl5⟩)
    (c5 : PySem.W.codeIn K cd5 "_law_truth" = true)
    (k5 : PySem.W.keepIn K (.ref f5) = true)
    (a6 : PySem.W.nsIn K mainGlobals "_law_machine" = some (some (.ref f6)))
    (l6 : K.lookup f6 = some ⟨oc6, od6, .func (PySem.W.fnOf "_law_machine" "_law_machine" (defArgs s_law_machine) (defBody s_law_machine) (defScope s_law_machine) .none kV6 dc6 pm6 an6 cd6 ct6), sl6⟩)
    (c6 : PySem.W.codeIn K cd6 "_law_machine" = true)
    (k6 : PySem.W.keepIn K (.ref f6) = true)
    (a7 : PySem.W.nsIn K mainGlobals "_law_shown" = some (some (.ref f7)))
    (l7 : K.lookup f7 = some ⟨oc7, od7, .func (PySem.W.fnOf "_law_shown" "_law_shown" (defArgs s_law_shown) (defBody s_law_shown) (defScope s_law_shown) .none kV7 dc7 pm7 an7 cd7 ct7), sl7⟩)
    (c7 : PySem.W.codeIn K cd7 "_law_shown" = true)
    (k7 : PySem.W.keepIn K (.ref f7) = true)
    (a8 : PySem.W.nsIn K mainGlobals "is_number" = some (some (.ref f8)))
    (l8 : K.lookup f8 = some ⟨oc8, od8, .func (PySem.W.fnOf "is_number" "is_number" (defArgs s_is_number) (defBody s_is_number) (defScope s_is_number) .none kV8 dc8 pm8 an8 cd8 ct8), sl8⟩)
    (c8 : PySem.W.codeIn K cd8 "is_number" = true)
    (k8 : PySem.W.keepIn K (.ref f8) = true)
    (a9 : PySem.W.nsIn K mainGlobals "is_within" = some (some (.ref f9)))
    (l9 : K.lookup f9 = some ⟨oc9, od9, .func (PySem.W.fnOf "is_within" "is_within" (defArgs s_is_within) (defBody s_is_within) (defScope s_is_within) .none kV9 dc9 pm9 an9 cd9 ct9), sl9⟩)
    (c9 : PySem.W.codeIn K cd9 "is_within" = true)
    (k9 : PySem.W.keepIn K (.ref f9) = true)
    (a10 : PySem.W.nsIn K mainGlobals "are_within" = some (some (.ref f10)))
    (l10 : K.lookup f10 = some ⟨oc10, od10, .func (PySem.W.fnOf "are_within" "are_within" (defArgs s_are_within) (defBody s_are_within) (defScope s_are_within) .none kV10 dc10 pm10 an10 cd10 ct10), sl10⟩)
    (c10 : PySem.W.codeIn K cd10 "are_within" = true)
    (k10 : PySem.W.keepIn K (.ref f10) = true)
    (a11 : PySem.W.nsIn K mainGlobals "is_machine" = some (some (.ref f11)))
    (l11 : K.lookup f11 = some ⟨oc11, od11, .func (PySem.W.fnOf "is_machine" "is_machine" (defArgs s_is_machine) (defBody s_is_machine) (defScope s_is_machine) .none kV11 dc11 pm11 an11 cd11 ct11), sl11⟩)
    (c11 : PySem.W.codeIn K cd11 "is_machine" = true)
    (k11 : PySem.W.keepIn K (.ref f11) = true)
    (a12 : PySem.W.nsIn K mainGlobals "_law_right" = some (some (.ref f12)))
    (l12 : K.lookup f12 = some ⟨oc12, od12, .func (PySem.W.fnOf "_law_right" "_law_right" (defArgs s_law_right) (defBody s_law_right) (defScope s_law_right) .none kV12 dc12 pm12 an12 cd12 ct12), sl12⟩)
    (c12 : PySem.W.codeIn K cd12 "_law_right" = true)
    (k12 : PySem.W.keepIn K (.ref f12) = true)
    (a13 : PySem.W.nsIn K mainGlobals "_law_changed" = some (some (.ref f13)))
    (l13 : K.lookup f13 = some ⟨oc13, od13, .func (PySem.W.fnOf "_law_changed" "_law_changed" (defArgs s_law_changed) (defBody s_law_changed) (defScope s_law_changed) .none kV13 dc13 pm13 an13 cd13 ct13), sl13⟩)
    (c13 : PySem.W.codeIn K cd13 "_law_changed" = true)
    (k13 : PySem.W.keepIn K (.ref f13) = true)
    (a14 : PySem.W.nsIn K mainGlobals "_law_judged" = some (some (.ref f14)))
    (l14 : K.lookup f14 = some ⟨oc14, od14, .func (PySem.W.fnOf "_law_judged" "_law_judged" (defArgs s_law_judged) (defBody s_law_judged) (defScope s_law_judged) .none kV14 dc14 pm14 an14 cd14 ct14), sl14⟩)
    (c14 : PySem.W.codeIn K cd14 "_law_judged" = true)
    (k14 : PySem.W.keepIn K (.ref f14) = true)
    (a15 : PySem.W.nsIn K mainGlobals "_law_rows" = some (some (.ref f15)))
    (l15 : K.lookup f15 = some ⟨oc15, od15, .func (PySem.W.fnOf "_law_rows" "_law_rows" (defArgs s_law_rows) (defBody s_law_rows) (defScope s_law_rows) .none kV15 dc15 pm15 an15 cd15 ct15), sl15⟩)
    (c15 : PySem.W.codeIn K cd15 "_law_rows" = true)
    (k15 : PySem.W.keepIn K (.ref f15) = true)
    (a16 : PySem.W.nsIn K mainGlobals "_law_numbers" = some (some (.ref f16)))
    (l16 : K.lookup f16 = some ⟨oc16, od16, .func (PySem.W.fnOf "_law_numbers" "_law_numbers" (defArgs s_law_numbers) (defBody s_law_numbers) (defScope s_law_numbers) .none kV16 dc16 pm16 an16 cd16 ct16), sl16⟩)
    (c16 : PySem.W.codeIn K cd16 "_law_numbers" = true)
    (k16 : PySem.W.keepIn K (.ref f16) = true)
    (a17 : PySem.W.nsIn K mainGlobals "_law_behind" = some (some (.ref f17)))
    (l17 : K.lookup f17 = some ⟨oc17, od17, .func (PySem.W.fnOf "_law_behind" "_law_behind" (defArgs s_law_behind) (defBody s_law_behind) (defScope s_law_behind) .none kV17 dc17 pm17 an17 cd17 ct17), sl17⟩)
    (c17 : PySem.W.codeIn K cd17 "_law_behind" = true)
    (k17 : PySem.W.keepIn K (.ref f17) = true)
    (a18 : PySem.W.nsIn K mainGlobals "_law_join" = some (some (.ref f18)))
    (l18 : K.lookup f18 = some ⟨oc18, od18, .func (PySem.W.fnOf "_law_join" "_law_join" (defArgs s_law_join) (defBody s_law_join) (defScope s_law_join) .none kV18 dc18 pm18 an18 cd18 ct18), sl18⟩)
    (c18 : PySem.W.codeIn K cd18 "_law_join" = true)
    (k18 : PySem.W.keepIn K (.ref f18) = true)
    (a19 : PySem.W.nsIn K mainGlobals "_law_words" = some (some (.ref f19)))
    (l19 : K.lookup f19 = some ⟨oc19, od19, .func (PySem.W.fnOf "_law_words" "_law_words" (defArgs s_law_words) (defBody s_law_words) (defScope s_law_words) .none kV19 dc19 pm19 an19 cd19 ct19), sl19⟩)
    (c19 : PySem.W.codeIn K cd19 "_law_words" = true)
    (k19 : PySem.W.keepIn K (.ref f19) = true)
    (a20 : PySem.W.nsIn K mainGlobals "moved" = some (some (.ref f20)))
    (l20 : K.lookup f20 = some ⟨oc20, od20, .func (PySem.W.fnOf "moved" "moved" (defArgs s_moved) (defBody s_moved) (defScope s_moved) .none kV20 dc20 pm20 an20 cd20 ct20), sl20⟩)
    (c20 : PySem.W.codeIn K cd20 "moved" = true)
    (k20 : PySem.W.keepIn K (.ref f20) = true)
    (a21 : PySem.W.nsIn K mainGlobals "joined" = some (some (.ref f21)))
    (l21 : K.lookup f21 = some ⟨oc21, od21, .func (PySem.W.fnOf "joined" "joined" (defArgs s_joined) (defBody s_joined) (defScope s_joined) .none kV21 dc21 pm21 an21 cd21 ct21), sl21⟩)
    (c21 : PySem.W.codeIn K cd21 "joined" = true)
    (k21 : PySem.W.keepIn K (.ref f21) = true)
    (a22 : PySem.W.nsIn K mainGlobals "_law_asked" = some (some (.ref f22)))
    (l22 : K.lookup f22 = some ⟨oc22, od22, .func (PySem.W.fnOf "_law_asked" "_law_asked" (defArgs s_law_asked) (defBody s_law_asked) (defScope s_law_asked) .none kV22 dc22 pm22 an22 cd22 ct22), sl22⟩)
    (c22 : PySem.W.codeIn K cd22 "_law_asked" = true)
    (k22 : PySem.W.keepIn K (.ref f22) = true)
    (a23 : PySem.W.nsIn K mainGlobals "_law_holds" = some (some (.ref f23)))
    (l23 : K.lookup f23 = some ⟨oc23, od23, .func (PySem.W.fnOf "_law_holds" "_law_holds" (defArgs s_law_holds) (defBody s_law_holds) (defScope s_law_holds) .none kV23 dc23 pm23 an23 cd23 ct23), sl23⟩)
    (c23 : PySem.W.codeIn K cd23 "_law_holds" = true)
    (k23 : PySem.W.keepIn K (.ref f23) = true)
    (a24 : PySem.W.nsIn K mainGlobals "_law_case" = some (some (.ref f24)))
    (l24 : K.lookup f24 = some ⟨oc24, od24, .func (PySem.W.fnOf "_law_case" "_law_case" (defArgs s_law_case) (defBody s_law_case) (defScope s_law_case) .none kV24 dc24 pm24 an24 cd24 ct24), sl24⟩)
    (c24 : PySem.W.codeIn K cd24 "_law_case" = true)
    (k24 : PySem.W.keepIn K (.ref f24) = true)
    (a25 : PySem.W.nsIn K mainGlobals "_law_counter" = some (some (.ref f25)))
    (l25 : K.lookup f25 = some ⟨oc25, od25, .func (PySem.W.fnOf "_law_counter" "_law_counter" (defArgs s_law_counter) (defBody s_law_counter) (defScope s_law_counter) .none kV25 dc25 pm25 an25 cd25 ct25), sl25⟩)
    (c25 : PySem.W.codeIn K cd25 "_law_counter" = true)
    (k25 : PySem.W.keepIn K (.ref f25) = true)
    (a26 : PySem.W.nsIn K mainGlobals "_law_dear" = some (some (.ref f26)))
    (l26 : K.lookup f26 = some ⟨oc26, od26, .func (PySem.W.fnOf "_law_dear" "_law_dear" (defArgs s_law_dear) (defBody s_law_dear) (defScope s_law_dear) .none kV26 dc26 pm26 an26 cd26 ct26), sl26⟩)
    (c26 : PySem.W.codeIn K cd26 "_law_dear" = true)
    (k26 : PySem.W.keepIn K (.ref f26) = true)
    (a27 : PySem.W.nsIn K mainGlobals "_law_dear_holds" = some (some (.ref f27)))
    (l27 : K.lookup f27 = some ⟨oc27, od27, .func (PySem.W.fnOf "_law_dear_holds" "_law_dear_holds" (defArgs s_law_dear_holds) (defBody s_law_dear_holds) (defScope s_law_dear_holds) .none kV27 dc27 pm27 an27 cd27 ct27), sl27⟩)
    (c27 : PySem.W.codeIn K cd27 "_law_dear_holds" = true)
    (k27 : PySem.W.keepIn K (.ref f27) = true)
    (a28 : PySem.W.nsIn K mainGlobals "law" = some (some (.ref f28)))
    (l28 : K.lookup f28 = some ⟨oc28, od28, .func (PySem.W.fnOf "law" "law" (defArgs s_law) (defBody s_law) (defScope s_law) .none kV28 dc28 pm28 an28 cd28 ct28), sl28⟩)
    (c28 : PySem.W.codeIn K cd28 "law" = true)
    (k28 : PySem.W.keepIn K (.ref f28) = true)
    (z0 : PySem.W.nsIn K mainGlobals "all" = some none)
    (z1 : PySem.W.nsIn K mainGlobals "bool" = some none)
    (z2 : PySem.W.nsIn K mainGlobals "int" = some none)
    (z3 : PySem.W.nsIn K mainGlobals "isinstance" = some none)
    (z4 : PySem.W.nsIn K mainGlobals "len" = some none)
    (z5 : PySem.W.nsIn K mainGlobals "range" = some none)
    (z6 : PySem.W.nsIn K mainGlobals "tuple" = some none)
    : ∃ fd : FuncData, (∀ (s : Shared) (v : Value), BindsTo s fd ⟨[v], []⟩ [("script", v)]) ∧ ∀ base : Heap, K.In base → base.Ns mainGlobals mg → FnOk l.prog w K mg base (L2.CX l.prog w) 7 fa fd ["script"] (spQ K 1 fs_law) := by
  have e := hfa.symm.trans (PySem.W.mg_of X G a28)
  cases e
  have B : Bt mg := ⟨PySem.W.mg_none_of X G z0, PySem.W.mg_none_of X G z1, PySem.W.mg_none_of X G z2, PySem.W.mg_none_of X G z3, PySem.W.mg_none_of X G z4, PySem.W.mg_none_of X G z5, PySem.W.mg_none_of X G z6⟩
  have M : Mg K mg := ⟨⟨_, PySem.W.mg_of X G gc0, gr0⟩⟩
  have eC0 := clsA_of aC0
  have T0 := clsB_ok bC0
  have S0 : SupI l.prog K mg C0 m_TooMany "TooMany.__init__" fI0 (PySem.W.ksFn "__init__" "TooMany.__init__" (defArgs m_TooMany) (defBody m_TooMany) (defScope m_TooMany) .none xkV0 xdc0 xpm0 xan0 (.ref cda0) xct0 cc0) :=
    ⟨⟨_, _, _, _, _, _, _, _, _, _, _, _, _, _, _, _, _, _, _, rfl, lI0, cI0, dI0, vI0, eI0, kI0⟩, hI, T0.oex, sI0, bI0, oI, PySem.W.mg_none_of X G zI⟩
  obtain ⟨_, _, _, _, g0⟩ := g_TooMany
  have x0 : ∀ base, MkQ l.prog w K mg base 1 "TooMany" ["limit"] := fun base => ⟨fI0, _, ["self", "limit"], by rw [eC0]; exact T0.oex, by rw [eC0]; exact iC0, tI0, by rw [eC0]; exact init1 S0 g0 n0_limit (by decide) (by decide), .all (fun us hl => match us, hl with | [_, _], _ => rfl), by rw [eC0]; exact PySem.W.mg_of X G aC0⟩
  have Y : Ys K mg := by
   refine ⟨?y0, ?y1, ?y2⟩
   case y0 => rw [eC0]; exact PySem.W.mg_of X G aC0
   case y1 => exact tabAll (by
    intro p hp
    simp only [List.mem_cons, List.not_mem_nil, or_false] at hp
    subst hp
    show PySem.W.exmOne K (.ref (clsA K "TooMany")) (.ref (clsA K "TooMany")) = some true
    rw [eC0]
    exact x0_0)
   case y2 => 
      intro y hy
      simp only [List.mem_cons, List.not_mem_nil, or_false] at hy
      subst hy
      rw [eC0]
      exact ⟨T0.xf, n0_limit⟩
  have F0 := fun_mk (st := s_run_machine) l0 c0 k0
  have F1 := fun_mk (st := s_law_mixed) l1 c1 k1
  have F2 := fun_mk (st := s_law_purse) l2 c2 k2
  have F3 := fun_mk (st := s_law_take) l3 c3 k3
  have F4 := fun_mk (st := s_law_row) l4 c4 k4
  have F5 := fun_mk (st := s_law_truth) l5 c5 k5
  have F6 := fun_mk (st := s_law_machine) l6 c6 k6
  have F7 := fun_mk (st := s_law_shown) l7 c7 k7
  have F8 := fun_mk (st := s_is_number) l8 c8 k8
  have F9 := fun_mk (st := s_is_within) l9 c9 k9
  have F10 := fun_mk (st := s_are_within) l10 c10 k10
  have F11 := fun_mk (st := s_is_machine) l11 c11 k11
  have F12 := fun_mk (st := s_law_right) l12 c12 k12
  have F13 := fun_mk (st := s_law_changed) l13 c13 k13
  have F14 := fun_mk (st := s_law_judged) l14 c14 k14
  have F15 := fun_mk (st := s_law_rows) l15 c15 k15
  have F16 := fun_mk (st := s_law_numbers) l16 c16 k16
  have F17 := fun_mk (st := s_law_behind) l17 c17 k17
  have F18 := fun_mk (st := s_law_join) l18 c18 k18
  have F19 := fun_mk (st := s_law_words) l19 c19 k19
  have F20 := fun_mk (st := s_moved) l20 c20 k20
  have F21 := fun_mk (st := s_joined) l21 c21 k21
  have F22 := fun_mk (st := s_law_asked) l22 c22 k22
  have F23 := fun_mk (st := s_law_holds) l23 c23 k23
  have F24 := fun_mk (st := s_law_case) l24 c24 k24
  have F25 := fun_mk (st := s_law_counter) l25 c25 k25
  have F26 := fun_mk (st := s_law_dear) l26 c26 k26
  have F27 := fun_mk (st := s_law_dear_holds) l27 c27 k27
  have F28 := fun_mk (st := s_law) l28 c28 k28
  refine ⟨PySem.W.fnOf "law" "law" (defArgs s_law) (defBody s_law) (defScope s_law) .none kV28 dc28 pm28 an28 cd28 ct28, fun s v => .of_eq rfl, fun base _ _ => ?_⟩
  have R : Rs l.prog w K mg base := ⟨x0 base⟩
  have q0 := calq F0 (PySem.W.mg_of X G a0) (ok_run_machine (P := l.prog) (w := w) (mg := mg) (base := base) F0 B) (fun _ _ _ _ _ _ us hl => match us, hl with | [_, _], _ => rfl)
  have q1 := calq F1 (PySem.W.mg_of X G a1) (ok_law_mixed (P := l.prog) (w := w) (mg := mg) (base := base) F1 B) (fun _ _ _ _ _ _ us hl => match us, hl with | [_, _], _ => rfl)
  have q2 := calq F2 (PySem.W.mg_of X G a2) (ok_law_purse (P := l.prog) (w := w) (mg := mg) (base := base) F2 B ⟨q1⟩) (fun _ _ _ _ _ _ us hl => match us, hl with | [_], _ => rfl)
  have q3 := calq F3 (PySem.W.mg_of X G a3) (ok_law_take (P := l.prog) (w := w) (mg := mg) (base := base) F3 B) (fun _ _ _ _ _ _ us hl => match us, hl with | [_, _], _ => rfl)
  have q4 := calq F4 (PySem.W.mg_of X G a4) (ok_law_row (P := l.prog) (w := w) (mg := mg) (base := base) F4 B ⟨q3⟩) (fun _ _ _ _ _ _ us hl => match us, hl with | [_, _, _], _ => rfl)
  have q5 := calq F5 (PySem.W.mg_of X G a5) (ok_law_truth (P := l.prog) (w := w) (mg := mg) (base := base) F5 B) (fun _ _ _ _ _ _ us hl => match us, hl with | [_], _ => rfl)
  have q6 := calq F6 (PySem.W.mg_of X G a6) (ok_law_machine (P := l.prog) (w := w) (mg := mg) (base := base) F6 B ⟨q3, q4⟩) (fun _ _ _ _ _ _ us hl => match us, hl with | [_, _, _, _], _ => rfl)
  have q7 := calq F7 (PySem.W.mg_of X G a7) (ok_law_shown (P := l.prog) (w := w) (mg := mg) (base := base) F7 B) (fun _ _ _ _ _ _ us hl => match us, hl with | [_, _], _ => rfl)
  have q8 := calq F8 (PySem.W.mg_of X G a8) (ok_is_number (P := l.prog) (w := w) (mg := mg) (base := base) F8 B) (fun _ _ _ _ _ _ us hl => match us, hl with | [_], _ => rfl)
  have q9 := calq F9 (PySem.W.mg_of X G a9) (ok_is_within (P := l.prog) (w := w) (mg := mg) (base := base) F9 B ⟨q8⟩) (fun _ _ _ _ _ _ us hl => match us, hl with | [_, _, _], _ => rfl)
  have q10 := calq F10 (PySem.W.mg_of X G a10) (ok_are_within (P := l.prog) (w := w) (mg := mg) (base := base) F10 B ⟨q9⟩) (fun _ _ _ _ _ _ us hl => match us, hl with | [_, _, _], _ => rfl)
  have q11 := calq F11 (PySem.W.mg_of X G a11) (ok_is_machine (P := l.prog) (w := w) (mg := mg) (base := base) F11 B ⟨q9, q10⟩) (fun _ _ _ _ _ _ us hl => match us, hl with | [_, _], _ => rfl)
  have q12 := calq F12 (PySem.W.mg_of X G a12) (ok_law_right (P := l.prog) (w := w) (mg := mg) (base := base) F12 B) (fun _ _ _ _ _ _ us hl => match us, hl with | [_, _], _ => rfl)
  have q13 := calq F13 (PySem.W.mg_of X G a13) (ok_law_changed (P := l.prog) (w := w) (mg := mg) (base := base) F13 B ⟨q3⟩) (fun _ _ _ _ _ _ us hl => match us, hl with | [_, _, _], _ => rfl)
  have q14 := calq F14 (PySem.W.mg_of X G a14) (ok_law_judged (P := l.prog) (w := w) (mg := mg) (base := base) F14 B ⟨q11, q12, q13⟩) (fun _ _ _ _ _ _ us hl => match us, hl with | [_, _, _], _ => rfl)
  have q15 := calq F15 (PySem.W.mg_of X G a15) (ok_law_rows (P := l.prog) (w := w) (mg := mg) (base := base) F15 B) (fun _ _ _ _ _ _ us hl => match us, hl with | [_], _ => rfl)
  have q16 := calq F16 (PySem.W.mg_of X G a16) (ok_law_numbers (P := l.prog) (w := w) (mg := mg) (base := base) F16 B ⟨q15⟩) (fun _ _ _ _ _ _ us hl => match us, hl with | [_], _ => rfl)
  have q17 := calq F17 (PySem.W.mg_of X G a17) (ok_law_behind (P := l.prog) (w := w) (mg := mg) (base := base) F17 B) (fun _ _ _ _ _ _ us hl => match us, hl with | [_, _, _, _, _], _ => rfl)
  have q18 := calq F18 (PySem.W.mg_of X G a18) (ok_law_join (P := l.prog) (w := w) (mg := mg) (base := base) F18 B ⟨q16, q17⟩) (fun _ _ _ _ _ _ us hl => match us, hl with | [_, _, _, _], _ => rfl)
  have q19 := calq F19 (PySem.W.mg_of X G a19) (ok_law_words (P := l.prog) (w := w) (mg := mg) (base := base) F19 B ⟨q7, q16⟩) (fun _ _ _ _ _ _ us hl => match us, hl with | [_, _, _, _], _ => rfl)
  have q20 := calq F20 (PySem.W.mg_of X G a20) (ok_moved (P := l.prog) (w := w) (mg := mg) (base := base) F20 B) (fun _ _ _ _ _ _ us hl => match us, hl with | [_, _, _, _, _], _ => rfl)
  have q21 := calq F21 (PySem.W.mg_of X G a21) (ok_joined (P := l.prog) (w := w) (mg := mg) (base := base) F21 B ⟨q20⟩ M R) (fun _ _ _ _ _ _ us hl => match us, hl with | [_, _, _, _], _ => rfl)
  have q22 := calq F22 (PySem.W.mg_of X G a22) (ok_law_asked (P := l.prog) (w := w) (mg := mg) (base := base) F22 B ⟨q21⟩ Y) (fun _ _ _ _ _ _ us hl => match us, hl with | [_, _, _, _], _ => rfl)
  have q23 := calq F23 (PySem.W.mg_of X G a23) (ok_law_holds (P := l.prog) (w := w) (mg := mg) (base := base) F23 B ⟨q11, q0, q5, q19, q22⟩) (fun _ _ _ _ _ _ us hl => match us, hl with | [_, _, _, _, _, _], _ => rfl)
  have q24 := calq F24 (PySem.W.mg_of X G a24) (ok_law_case (P := l.prog) (w := w) (mg := mg) (base := base) F24 B ⟨q3, q6⟩) (fun _ _ _ _ _ _ us hl => match us, hl with | [_, _, _], _ => rfl)
  have q25 := calq F25 (PySem.W.mg_of X G a25) (ok_law_counter (P := l.prog) (w := w) (mg := mg) (base := base) F25 B) (fun _ _ _ _ _ _ us hl => match us, hl with | [_, _], _ => rfl)
  have q26 := calq F26 (PySem.W.mg_of X G a26) (ok_law_dear (P := l.prog) (w := w) (mg := mg) (base := base) F26 B ⟨q3, q6, q25⟩) (fun _ _ _ _ _ _ us hl => match us, hl with | [_], _ => rfl)
  have q27 := calq F27 (PySem.W.mg_of X G a27) (ok_law_dear_holds (P := l.prog) (w := w) (mg := mg) (base := base) F27 B ⟨q3, q4, q6, q18, q23, q25, q26⟩) (fun _ _ _ _ _ _ us hl => match us, hl with | [_], _ => rfl)
  exact ok_law F28 B ⟨q0, q2, q3, q4, q5, q6, q7, q14, q18, q23, q24, q27⟩
end W08
open PySem PySem.W PyProof.Rows
set_option maxHeartbeats 0 in
theorem PySem.Challenge.cw_columnwright_k08_machines_joined_holds : PySem.Challenge.rw_columnwright_k08_machines_joined.Holds := by
  w_on; o_law; k_head; (case hw => w_witness2)
  k_fill
  refine L2.walk_of (l := PySem.Challenge.rw_columnwright_k08_machines_joined) (n := 63) (k := 7) (x := "script") (CX := fun w => L2.CX PySem.Challenge.rw_columnwright_k08_machines_joined.prog w) (sp := fun w => QL.spQ _ 1 W08.fs_law) rfl (by decide) rfl ⟨rfl, by decide, by decide⟩ (fun w h Y => PySem.W.kIn_of Y) ?F (fun _ _ a ns hl hO hS => QL.end_sp hO hS (W08.fs_end ns hl)) (fun _ _ _ _ _ h => QL.end_cx h)
  case F =>
    intro w mg fa h KX G hmg
    refine' W08.all_mk KX G hmg ?aC0 ?bC0 ?iC0 ?tI0 ?lI0 ?cI0 ?dI0 ?vI0 ?eI0 ?kI0 ?sI0 ?bI0 ?n0_limit ?hI ?oI ?zI ?x0_0 ?gc0 ?gr0 ?a0 ?l0 ?c0 ?k0 ?a1 ?l1 ?c1 ?k1 ?a2 ?l2 ?c2 ?k2 ?a3 ?l3 ?c3 ?k3 ?a4 ?l4 ?c4 ?k4 ?a5 ?l5 ?c5 ?k5 ?a6 ?l6 ?c6 ?k6 ?a7 ?l7 ?c7 ?k7 ?a8 ?l8 ?c8 ?k8 ?a9 ?l9 ?c9 ?k9 ?a10 ?l10 ?c10 ?k10 ?a11 ?l11 ?c11 ?k11 ?a12 ?l12 ?c12 ?k12 ?a13 ?l13 ?c13 ?k13 ?a14 ?l14 ?c14 ?k14 ?a15 ?l15 ?c15 ?k15 ?a16 ?l16 ?c16 ?k16 ?a17 ?l17 ?c17 ?k17 ?a18 ?l18 ?c18 ?k18 ?a19 ?l19 ?c19 ?k19 ?a20 ?l20 ?c20 ?k20 ?a21 ?l21 ?c21 ?k21 ?a22 ?l22 ?c22 ?k22 ?a23 ?l23 ?c23 ?k23 ?a24 ?l24 ?c24 ?k24 ?a25 ?l25 ?c25 ?k25 ?a26 ?l26 ?c26 ?k26 ?a27 ?l27 ?c27 ?k27 ?a28 ?l28 ?c28 ?k28 ?z0 ?z1 ?z2 ?z3 ?z4 ?z5 ?z6
    (case aC0 => k_is)
    (case bC0 => kernel_rfl)
    (case iC0 => k_is)
    (case tI0 => k_is)
    (case lI0 => k_is)
    (case cI0 => k_is)
    (case dI0 => k_is)
    (case vI0 => rfl)
    (case eI0 => first | rfl | decide +kernel)
    (case kI0 => k_is)
    (case sI0 => ks_is)
    (case bI0 => k_is)
    (case n0_limit => k_is)
    (case hI => first | rfl | decide +kernel)
    (case oI => k_is)
    (case zI => k_is)
    (case x0_0 => kernel_rfl)
    (case gc0 => k_is)
    (case gr0 => exact ⟨_, by first | rfl | kernel_rfl⟩)
    (case a0 => k_is)
    (case l0 => k_is)
    (case c0 => k_is)
    (case k0 => k_is)
    (case a1 => k_is)
    (case l1 => k_is)
    (case c1 => k_is)
    (case k1 => k_is)
    (case a2 => k_is)
    (case l2 => k_is)
    (case c2 => k_is)
    (case k2 => k_is)
    (case a3 => k_is)
    (case l3 => k_is)
    (case c3 => k_is)
    (case k3 => k_is)
    (case a4 => k_is)
    (case l4 => k_is)
    (case c4 => k_is)
    (case k4 => k_is)
    (case a5 => k_is)
    (case l5 => k_is)
    (case c5 => k_is)
    (case k5 => k_is)
    (case a6 => k_is)
    (case l6 => k_is)
    (case c6 => k_is)
    (case k6 => k_is)
    (case a7 => k_is)
    (case l7 => k_is)
    (case c7 => k_is)
    (case k7 => k_is)
    (case a8 => k_is)
    (case l8 => k_is)
    (case c8 => k_is)
    (case k8 => k_is)
    (case a9 => k_is)
    (case l9 => k_is)
    (case c9 => k_is)
    (case k9 => k_is)
    (case a10 => k_is)
    (case l10 => k_is)
    (case c10 => k_is)
    (case k10 => k_is)
    (case a11 => k_is)
    (case l11 => k_is)
    (case c11 => k_is)
    (case k11 => k_is)
    (case a12 => k_is)
    (case l12 => k_is)
    (case c12 => k_is)
    (case k12 => k_is)
    (case a13 => k_is)
    (case l13 => k_is)
    (case c13 => k_is)
    (case k13 => k_is)
    (case a14 => k_is)
    (case l14 => k_is)
    (case c14 => k_is)
    (case k14 => k_is)
    (case a15 => k_is)
    (case l15 => k_is)
    (case c15 => k_is)
    (case k15 => k_is)
    (case a16 => k_is)
    (case l16 => k_is)
    (case c16 => k_is)
    (case k16 => k_is)
    (case a17 => k_is)
    (case l17 => k_is)
    (case c17 => k_is)
    (case k17 => k_is)
    (case a18 => k_is)
    (case l18 => k_is)
    (case c18 => k_is)
    (case k18 => k_is)
    (case a19 => k_is)
    (case l19 => k_is)
    (case c19 => k_is)
    (case k19 => k_is)
    (case a20 => k_is)
    (case l20 => k_is)
    (case c20 => k_is)
    (case k20 => k_is)
    (case a21 => k_is)
    (case l21 => k_is)
    (case c21 => k_is)
    (case k21 => k_is)
    (case a22 => k_is)
    (case l22 => k_is)
    (case c22 => k_is)
    (case k22 => k_is)
    (case a23 => k_is)
    (case l23 => k_is)
    (case c23 => k_is)
    (case k23 => k_is)
    (case a24 => k_is)
    (case l24 => k_is)
    (case c24 => k_is)
    (case k24 => k_is)
    (case a25 => k_is)
    (case l25 => k_is)
    (case c25 => k_is)
    (case k25 => k_is)
    (case a26 => k_is)
    (case l26 => k_is)
    (case c26 => k_is)
    (case k26 => k_is)
    (case a27 => k_is)
    (case l27 => k_is)
    (case c27 => k_is)
    (case k27 => k_is)
    (case a28 => k_is)
    (case l28 => k_is)
    (case c28 => k_is)
    (case k28 => k_is)
    (case z0 => k_is)
    (case z1 => k_is)
    (case z2 => k_is)
    (case z3 => k_is)
    (case z4 => k_is)
    (case z5 => k_is)
    (case z6 => k_is)
