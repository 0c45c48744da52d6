import PyProof.Rows.All
import Wide.All
import OpenK.AllK
import Wide.FinOn
import HandS.ForMost
import HandS.ForExc
import HandS.ForSpec
import HandS.Conv
import HandS.TupAny
import HandS.Wide
import HandS.IsInst
import HandS.ExcCtx
import KE.KExcSuper
import HandS.ExcInit
import HandS.ExcField
import HandS.ExcIs
import HandS.TupMul
import PyProof.StrLawsIn
import HandS.Deep
import HandS.Dict
import KE.KDictDisplayH
import HandS.WordsDict
import HandS.TupLen
import HandS.SetKeys
import PyProof.DictMoreH
import HandS.More
import HandS.CallSlots
import HandS.HotCalls
import HandS.Text
import PySem.Challenge.RW_columnwright_k01_names_errors_bounds
set_option Elab.async false
set_option linter.all false
set_option maxRecDepth 100000
set_option maxHeartbeats 4000000
/-! QL: a layer of plain data over the hand layer. Values D have no addresses; what may change stands in numbered cells. -/
namespace QL
open PySem L2

inductive D where
  | non | bl (b : Bool) | int (i : Int) | str (x : Str) | ty (n : String)
  | tup (xs : List D) | lst (xs : List D) | scr (xs : List D) | ktu (xs : List D) | tux (xs : List D)
  | dk (ks : List Key) (vs : List D) | dt (ks : List (List Key)) (vs : List D)
  | obj (C : Addr) (ns : List Str) (vs : List D)

/-- an exception: its class, its fields -/
inductive Ex where
  | own (x : Str) (ns : List Str) (vs : List D)
  | blt (n : String)

inductive P where
  | d (x : D) | loc (n : Nat)
  | exc (a : Addr) (cls : Value) (dd : Option Addr) (ex : Ex)

inductive Cell where
  | lst (xs : List D) | frz (xs : List D)
  | dk (kvs : List (Key × D)) | dt (kvs : List (List Key × D)) | fz (x : D)
  | own (b : Addr) (xs : List D) | dkc (kvs : List (Key × Addr)) | dtc (kvs : List (List Key × Addr)) | lsc (as : List Addr) | ins (C : Addr) (ns : List Str) (vs : List D)

abbrev LS := List Cell
abbrev SS := List (Option P)

/-- a point: the abstract heap, the addresses of the cells, what never changes any more -/
structure Pt where
  H : Hp
  rho : List Addr
  F : Addr → Prop

/-- where the module's name x stands for an object -/
def clsA (K : PySem.W.Frag) (x : Str) : Addr := match PySem.W.nsIn K mainGlobals x with
  | some (some (.ref a)) => a
  | _ => 0
section
variable (K : PySem.W.Frag)
def TupAt (_ : PySem.W.Frag) (p : Pt) (a : Addr) (vs : List V) : Prop := p.H a = some (.tup vs)
def LstAt (p : Pt) (a : Addr) (vs : List V) : Prop := p.F a ∧ p.H a = some (.lst vs)
def ScrAt (p : Pt) (a : Addr) (vs : List V) : Prop := (p.F a ∧ Rd p.H a (.lst vs)) ∨ SqL K (fun _ => none) a vs
mutual
inductive RD (p : Pt) : D → V → Prop
  | non : RD p .non .non
  | bl (b : Bool) : RD p (.bl b) (.bl b)
  | int (i : Int) : RD p (.int i) (.int i)
  | str (x : Str) : RD p (.str x) (.str x)
  | ty (n : String) : RD p (.ty n) (.ty n)
  | tup {a : Addr} {xs : List D} {vs : List V} : TupAt K p a vs → RDs p xs vs → RD p (.tup xs) (.ref a)
  | lst {a : Addr} {xs : List D} {vs : List V} : LstAt p a vs → RDs p xs vs → RD p (.lst xs) (.ref a)
  | scr {a : Addr} {xs : List D} {vs : List V} : ScrAt K p a vs → RDs p xs vs → RD p (.scr xs) (.ref a)
  | ktu {a : Addr} {xs : List D} {vs : List V} : SqT K (fun _ => none) a vs → RDs p xs vs → RD p (.ktu xs) (.ref a)
  | tux {a : Addr} {ob : Obj} {xs : List D} {vs : List V} : p.F a → p.H a = some (.frz ob (.tup vs)) → ob.dict = none → RDs p xs vs → RD p (.tux xs) (.ref a)
  | dk {a : Addr} {ob : Obj} {ks : List Key} {xs : List D} {vs : List V} : p.F a → p.H a = some (.frz ob (.dK (ks.zip vs))) → ks.length = xs.length → RDs p xs vs → RD p (.dk ks xs) (.ref a)
  | dt {a : Addr} {ob : Obj} {ks : List (List Key)} {xs : List D} {vs : List V} : p.F a → p.H a = some (.frz ob (.dT (ks.zip vs))) → ks.length = xs.length → RDs p xs vs → RD p (.dt ks xs) (.ref a)
  | obj {a C dx : Addr} {ns : List Str} {xs : List D} {vs : List V} : p.F a → p.H a = some (.ins C dx (ns.zip vs)) → RDs p xs vs → RD p (.obj C ns xs) (.ref a)
inductive RDs (p : Pt) : List D → List V → Prop
  | nil : RDs p [] []
  | cons {x : D} {v : V} {xs : List D} {vs : List V} : RD p x v → RDs p xs vs → RDs p (x :: xs) (v :: vs)
end
def XR (p : Pt) : Ex → Value → Option Addr → Prop
  | .own x ns xs, cls, d => cls = .ref (clsA K x) ∧ ∃ a vs, d = some a ∧ p.F a ∧ p.H a = some (.xd (ns.zip vs)) ∧ RDs K p xs vs
  | .blt n, cls, d => cls = .type n ∧ d = none
def RP (p : Pt) : P → V → Prop
  | .d x, v => RD K p x v
  | .loc n, v => ∃ a, p.rho[n]? = some a ∧ v = .ref a
  | .exc a cls d ex, v => v = .ref a ∧ XR K p ex cls d
def CellOk (p : Pt) : Cell → Addr → Prop
  | .lst xs, a => ¬ p.F a ∧ ∃ vs, p.H a = some (.lst vs) ∧ RDs K p xs vs
  | .frz xs, a => ∃ vs, LstAt p a vs ∧ RDs K p xs vs
  | .dk kvs, a => ¬ p.F a ∧ ∃ vs, p.H a = some (.dK ((kvs.map (·.1)).zip vs)) ∧ RDs K p (kvs.map (·.2)) vs
  | .dt kvs, a => ¬ p.F a ∧ ∃ vs, p.H a = some (.dT ((kvs.map (·.1)).zip vs)) ∧ RDs K p (kvs.map (·.2)) vs
  | .fz x, a => RD K p x (.ref a)
  | .own b xs, a => a = b ∧ ¬ p.F a ∧ ∃ vs, p.H a = some (.lst vs) ∧ RDs K p xs vs
  | .dkc kvs, a => ¬ p.F a ∧ p.H a = some (.dK (kvs.map fun q => (q.1, V.ref q.2)))
  | .dtc kvs, a => ¬ p.F a ∧ p.H a = some (.dT (kvs.map fun q => (q.1, V.ref q.2)))
  | .lsc as, a => ¬ p.F a ∧ p.H a = some (.lst (as.map V.ref))
  | .ins C ns xs, a => ¬ p.F a ∧ ∃ dx vs, p.H a = some (.ins C dx (ns.zip vs)) ∧ ns.length = xs.length ∧ RDs K p xs vs
structure WF (p : Pt) : Prop where
  nd : p.rho.Nodup
  hs : ∀ a ∈ p.rho, ∃ o, p.H a = some o
  fs : ∀ a, p.F a → ∃ o, p.H a = some o
structure HF (p p' : Pt) : Prop where
  fm : ∀ a, p.F a → p'.F a
  keepF : ∀ b o, p.H b = some o → p.F b → p'.H b = some o
  tups : ∀ b vs, p.H b = some (.tup vs) → p'.H b = some (.tup vs)
structure Ext (p p' : Pt) : Prop where
  pre : ∃ t, p'.rho = p.rho ++ t
  new : ∀ a ∈ p'.rho, a ∈ p.rho ∨ p.H a = none
  fm : ∀ a, p.F a → p'.F a
  fn : ∀ a, p'.F a → p.F a ∨ p.H a = none ∨ a ∈ p.rho
  keep : ∀ b o, p.H b = some o → b ∉ p.rho → p'.H b = some o
  keepF : ∀ b o, p.H b = some o → p.F b → p'.H b = some o
  there : ∀ b o, p.H b = some o → ∃ o', p'.H b = some o'
  tups : ∀ b vs, p.H b = some (.tup vs) → p'.H b = some (.tup vs)
def Cells (p : Pt) (l : LS) : Prop := l.length = p.rho.length ∧ ∀ (i : Nat) (c : Cell), l[i]? = some c → ∃ a, p.rho[i]? = some a ∧ CellOk K p c a
def Slots (p : Pt) (σd : SS) (σ : St) : Prop := σd.length = σ.length ∧ ∀ (i : Nat) (d : P), σd[i]? = some (some d) → ∃ v, σ[i]? = some (some v) ∧ RP K p d v
structure Rel (p : Pt) (σ : St) (σd : SS) (l : LS) : Prop where
  wf : WF p
  sl : Slots K p σd σ
  ce : Cells K p l
end

section
variable {K : PySem.W.Frag} {p p' p'' : Pt} {a : Addr}
theorem Ext.refl (p : Pt) : Ext p p := ⟨⟨[], by simp⟩, fun _ h => .inl h, fun _ h => h, fun _ h => .inl h, fun _ _ h _ => h, fun _ _ h _ => h, fun _ o h => ⟨o, h⟩, fun _ _ h => h⟩
theorem none_back (e : Ext p p') (h : p'.H a = none) : p.H a = none := by
  cases q : p.H a with
  | none => rfl
  | some o =>
    obtain ⟨o', z⟩ := e.there _ _ q
    rw [h] at z
    cases z
theorem Ext.trans (e : Ext p p') (f : Ext p' p'') : Ext p p'' := by
  obtain ⟨t, ht⟩ := e.pre
  obtain ⟨u, hu⟩ := f.pre
  refine ⟨⟨t ++ u, by rw [hu, ht, List.append_assoc]⟩, fun a h => ?_, fun a h => f.fm a (e.fm a h), fun a h => ?_, fun b o h n => ?_, fun b o h n => f.keepF b o (e.keepF b o h n) (e.fm b n), fun b o h => ?_, fun b vs h => f.tups b vs (e.tups b vs h)⟩
  · rcases f.new a h with h | h
    · exact e.new a h
    · exact .inr (none_back e h)
  · rcases f.fn a h with h | h | h
    · exact e.fn a h
    · exact .inr (.inl (none_back e h))
    · rcases e.new a h with h | h
      · exact .inr (.inr h)
      · exact .inr (.inl h)
  · by_cases m : b ∈ p'.rho
    · rcases e.new b m with z | z
      · exact absurd z n
      · rw [h] at z; cases z
    · exact f.keep b o (e.keep b o h n) m
  · obtain ⟨o', h'⟩ := e.there b o h
    exact f.there b o' h'
theorem rd_keep {H H' : Hp} {u : HO} (h : Rd H a u) (k : ∀ o, H a = some o → H' a = some o) : Rd H' a u := by
  rcases h with h | ⟨o, h⟩
  · exact .inl (k _ h)
  · exact .inr ⟨o, k _ h⟩
theorem Ext.hf (e : Ext p p') : HF p p' := ⟨e.fm, e.keepF, e.tups⟩
theorem TupAt.mono {vs : List V} (e : HF p p') (h : TupAt K p a vs) : TupAt K p' a vs := e.tups _ _ h
theorem LstAt.mono {vs : List V} (e : HF p p') (h : LstAt p a vs) : LstAt p' a vs := ⟨e.fm _ h.1, e.keepF _ _ h.2 h.1⟩
theorem ScrAt.mono {vs : List V} (e : HF p p') (h : ScrAt K p a vs) : ScrAt K p' a vs := by
  rcases h with ⟨f, h⟩ | h
  · exact .inl ⟨e.fm _ f, rd_keep h fun o z => e.keepF _ _ z f⟩
  · exact .inr h
theorem seqT_empty {H : Hp} {vs : List V} (h : SqT K (fun _ => none) a vs) : SqT K H a vs := by
  rcases h with (h | ⟨o, h⟩) | h
  · cases h
  · cases h
  · exact .inr h
theorem seqL_empty {H : Hp} {vs : List V} (h : SqL K (fun _ => none) a vs) : SqL K H a vs := by
  rcases h with (h | ⟨o, h⟩) | h
  · cases h
  · cases h
  · exact .inr h
theorem TupAt.sq {vs : List V} (h : TupAt K p a vs) : SqT K p.H a vs := .inl (.inl h)
theorem LstAt.sq {vs : List V} (h : LstAt p a vs) : SqL K p.H a vs := .inl (.inl h.2)
theorem ScrAt.sq {vs : List V} (h : ScrAt K p a vs) : SqL K p.H a vs := by
  rcases h with ⟨_, h⟩ | h
  · exact .inl h
  · exact seqL_empty h
mutual
theorem RD.mono (e : HF p p') : ∀ {x : D} {v : V}, RD K p x v → RD K p' x v
  | _, _, .non => .non
  | _, _, .bl b => .bl b
  | _, _, .int i => .int i
  | _, _, .str x => .str x
  | _, _, .ty n => .ty n
  | _, _, .tup h r => .tup (h.mono e) (RDs.mono e r)
  | _, _, .lst h r => .lst (h.mono e) (RDs.mono e r)
  | _, _, .scr h r => .scr (h.mono e) (RDs.mono e r)
  | _, _, .ktu h r => .ktu h (RDs.mono e r)
  | _, _, .tux f h n r => .tux (e.fm _ f) (e.keepF _ _ h f) n (RDs.mono e r)
  | _, _, .dk f h n r => .dk (e.fm _ f) (e.keepF _ _ h f) n (RDs.mono e r)
  | _, _, .dt f h n r => .dt (e.fm _ f) (e.keepF _ _ h f) n (RDs.mono e r)
  | _, _, .obj f h r => .obj (e.fm _ f) (e.keepF _ _ h f) (RDs.mono e r)
theorem RDs.mono (e : HF p p') : ∀ {xs : List D} {vs : List V}, RDs K p xs vs → RDs K p' xs vs
  | _, _, .nil => .nil
  | _, _, .cons h r => .cons (RD.mono e h) (RDs.mono e r)
end
theorem RDs.len : ∀ {xs : List D} {vs : List V}, RDs K p xs vs → xs.length = vs.length
  | _, _, .nil => rfl
  | _, _, .cons _ r => by simp [RDs.len r]
theorem RDs.get : ∀ {xs : List D} {vs : List V} {i : Nat} {x : D}, RDs K p xs vs → xs[i]? = some x → ∃ v, vs[i]? = some v ∧ RD K p x v
  | _, _, _, _, .nil, h => by simp at h
  | _, _, 0, _, .cons h _, e => ⟨_, rfl, by simp at e; rw [← e]; exact h⟩
  | _, _, i + 1, _, .cons _ r, e => by
    obtain ⟨v, h1, h2⟩ := RDs.get (i := i) r (by simpa using e)
    exact ⟨v, by simpa using h1, h2⟩
theorem RDs.append : ∀ {xs ys : List D} {vs ws : List V}, RDs K p xs vs → RDs K p ys ws → RDs K p (xs ++ ys) (vs ++ ws)
  | _, _, _, _, .nil, s => s
  | _, _, _, _, .cons h r, s => .cons h (RDs.append r s)
theorem RDs.set {x : D} {v : V} (h : RD K p x v) : ∀ {xs : List D} {vs : List V} (i : Nat), RDs K p xs vs → RDs K p (xs.set i x) (vs.set i v)
  | _, _, _, .nil => .nil
  | _, _, 0, .cons _ t => .cons h t
  | _, _, i + 1, .cons q t => .cons q (RDs.set h i t)
theorem RDs.take : ∀ {xs : List D} {vs : List V} (n : Nat), RDs K p xs vs → RDs K p (xs.take n) (vs.take n)
  | _, _, 0, _ => .nil
  | _, _, _ + 1, .nil => .nil
  | _, _, n + 1, .cons h t => .cons h (RDs.take n t)
theorem RDs.drop : ∀ {xs : List D} {vs : List V} (n : Nat), RDs K p xs vs → RDs K p (xs.drop n) (vs.drop n)
  | _, _, 0, h => h
  | _, _, _ + 1, .nil => .nil
  | _, _, n + 1, .cons _ t => RDs.drop n t
theorem RDs.reverse : ∀ {xs : List D} {vs : List V}, RDs K p xs vs → RDs K p xs.reverse vs.reverse
  | _, _, .nil => .nil
  | _, _, .cons h r => by
    rw [List.reverse_cons, List.reverse_cons]
    exact RDs.append (RDs.reverse r) (.cons h .nil)
theorem RDs.eraseIdx : ∀ {xs : List D} {vs : List V} (n : Nat), RDs K p xs vs → RDs K p (xs.eraseIdx n) (vs.eraseIdx n)
  | _, _, _, .nil => .nil
  | _, _, 0, .cons _ t => t
  | _, _, n + 1, .cons h t => .cons h (RDs.eraseIdx n t)
theorem RDs.dropLast {xs : List D} {vs : List V} (h : RDs K p xs vs) : RDs K p xs.dropLast vs.dropLast := by
  rw [List.dropLast_eq_take, List.dropLast_eq_take, h.len]
  exact h.take _
theorem XR.mono (e : HF p p') {ex : Ex} {c : Value} {d : Option Addr} (h : XR K p ex c d) : XR K p' ex c d := by
  cases ex with
  | own C ns xs =>
    obtain ⟨h1, a, vs, h2, f, h3, h4⟩ := h
    exact ⟨h1, a, vs, h2, e.fm _ f, e.keepF _ _ h3 f, h4.mono e⟩
  | blt n => exact h
theorem RP.mono (e : Ext p p') {x : P} {v : V} (h : RP K p x v) : RP K p' x v := by
  cases x with
  | d x => exact RD.mono e.hf h
  | loc n =>
    obtain ⟨a, h1, h2⟩ := h
    obtain ⟨t, ht⟩ := e.pre
    refine ⟨a, ?_, h2⟩
    rw [ht, List.getElem?_append_left]
    · exact h1
    · exact (List.getElem?_eq_some_iff.mp h1).1
  | exc a c d ex => exact ⟨h.1, h.2.mono e.hf⟩
theorem Slots.mono (e : Ext p p') {σ : St} {σd : SS} (h : Slots K p σd σ) : Slots K p' σd σ := ⟨h.1, fun i d q => by
  obtain ⟨v, h1, h2⟩ := h.2 i d q
  exact ⟨v, h1, h2.mono e⟩⟩
theorem Slots.set {σ : St} {σd : SS} (h : Slots K p σd σ) {i : Nat} {d : P} {v : V} (r : RP K p d v) : Slots K p (σd.set i (some d)) (σ.set i (some v)) := by
  refine ⟨by simp [h.1], fun j d' q => ?_⟩
  by_cases e : i = j
  · subst e
    by_cases hl : i < σd.length
    · rw [List.getElem?_set_self hl] at q
      cases q
      exact ⟨v, List.getElem?_set_self (by rw [← h.1]; exact hl), r⟩
    · rw [List.getElem?_eq_none (by simpa using hl)] at q
      cases q
  · rw [List.getElem?_set_ne e] at q ⊢
    exact h.2 j d' q
theorem Slots.setNone {σ : St} {σd : SS} (h : Slots K p σd σ) {i : Nat} : Slots K p (σd.set i none) (σ.set i none) := by
  refine ⟨by simp [h.1], fun j d' q => ?_⟩
  by_cases e : i = j
  · subst e
    by_cases hl : i < σd.length
    · rw [List.getElem?_set_self hl] at q
      cases q
    · rw [List.getElem?_eq_none (by simpa using hl)] at q
      cases q
  · rw [List.getElem?_set_ne e] at q ⊢
    exact h.2 j d' q

/-- a new thing that never changes -/
abbrev Pt.frz (p : Pt) (a : Addr) (o : HO) : Pt := ⟨upd p.H a o, p.rho, fun b => p.F b ∨ b = a⟩
/-- a new cell -/
abbrev Pt.new (p : Pt) (a : Addr) (o : HO) : Pt := ⟨upd p.H a o, p.rho ++ [a], p.F⟩
/-- a cell written -/
abbrev Pt.put (p : Pt) (a : Addr) (o : HO) : Pt := ⟨upd p.H a o, p.rho, p.F⟩
/-- a cell that will not change any more -/
abbrev Pt.ice (p : Pt) (a : Addr) : Pt := ⟨p.H, p.rho, fun b => p.F b ∨ b = a⟩
theorem upd_some {H : Hp} {b : Addr} {o u : HO} (h : H b = some u) : ∃ z, upd H a o b = some z := by
  by_cases e : b = a
  · exact ⟨o, by rw [e, upd_same]⟩
  · exact ⟨u, by rw [upd_ne e]; exact h⟩
theorem WF.nrho (w : WF p) (h : p.H a = none) : a ∉ p.rho := fun m => by
  obtain ⟨o, z⟩ := w.hs a m
  rw [h] at z; cases z
theorem WF.nF (w : WF p) (h : p.H a = none) : ¬ p.F a := fun m => by
  obtain ⟨o, z⟩ := w.fs a m
  rw [h] at z; cases z
theorem ext_frz {o : HO} (h : p.H a = none) : Ext p (p.frz a o) := by
  refine ⟨⟨[], by simp⟩, fun _ z => .inl z, fun _ z => .inl z, fun b z => ?_, fun b u z _ => ?_, fun b u z _ => ?_, fun b u z => upd_some z, fun b u z => by show upd _ _ _ _ = _; rw [upd_ne (ne_of_none z h)]; exact z⟩
  · rcases z with z | z
    · exact .inl z
    · exact .inr (.inl (by rw [z]; exact h))
  · show upd _ _ _ _ = _
    rw [upd_ne (ne_of_none z h)]; exact z
  · show upd _ _ _ _ = _
    rw [upd_ne (ne_of_none z h)]; exact z
theorem wf_frz {o : HO} (w : WF p) : WF (p.frz a o) := by
  refine ⟨w.nd, fun b m => ?_, fun b m => ?_⟩
  · obtain ⟨u, z⟩ := w.hs b m
    exact upd_some z
  · rcases m with m | m
    · obtain ⟨u, z⟩ := w.fs b m
      exact upd_some z
    · exact ⟨o, by show upd _ _ _ _ = _; rw [m, upd_same]⟩
theorem ext_new {o : HO} (h : p.H a = none) : Ext p (p.new a o) := by
  refine ⟨⟨[a], rfl⟩, fun b z => ?_, fun _ z => z, fun b z => .inl z, fun b u z _ => ?_, fun b u z _ => ?_, fun b u z => upd_some z, fun b u z => by show upd _ _ _ _ = _; rw [upd_ne (ne_of_none z h)]; exact z⟩
  · rcases List.mem_append.mp z with z | z
    · exact .inl z
    · simp at z
      exact .inr (by rw [z]; exact h)
  · show upd _ _ _ _ = _
    rw [upd_ne (ne_of_none z h)]; exact z
  · show upd _ _ _ _ = _
    rw [upd_ne (ne_of_none z h)]; exact z
theorem wf_new {o : HO} (w : WF p) (h : p.H a = none) : WF (p.new a o) := by
  refine ⟨?_, fun b m => ?_, fun b m => ?_⟩
  · show (p.rho ++ [a]).Nodup
    rw [List.nodup_append]
    refine ⟨w.nd, by simp, fun x hx y hy e => ?_⟩
    simp at hy
    subst hy; subst e
    exact w.nrho h hx
  · rcases List.mem_append.mp m with m | m
    · obtain ⟨u, z⟩ := w.hs b m
      exact upd_some z
    · simp at m
      exact ⟨o, by show upd _ _ _ _ = _; rw [m, upd_same]⟩
  · obtain ⟨u, z⟩ := w.fs b m
    exact upd_some z
theorem ext_put {o : HO} (hr : a ∈ p.rho) (hf : ¬ p.F a) (ht : ∀ vs, p.H a ≠ some (.tup vs)) : Ext p (p.put a o) := by
  refine ⟨⟨[], by simp⟩, fun _ z => .inl z, fun _ z => z, fun b z => .inl z, fun b u z n => ?_, fun b u z n => ?_, fun b u z => upd_some z, fun b u z => by show upd _ _ _ _ = _; rw [upd_ne (fun e => ht u (by rw [← e]; exact z))]; exact z⟩
  · show upd _ _ _ _ = _
    rw [upd_ne (fun e => n (by rw [e]; exact hr))]; exact z
  · show upd _ _ _ _ = _
    rw [upd_ne (fun e => hf (by rw [← e]; exact n))]; exact z
theorem wf_put {o : HO} (w : WF p) : WF (p.put a o) := by
  refine ⟨w.nd, fun b m => ?_, fun b m => ?_⟩
  · obtain ⟨u, z⟩ := w.hs b m
    exact upd_some z
  · obtain ⟨u, z⟩ := w.fs b m
    exact upd_some z
theorem ext_ice (hr : a ∈ p.rho) : Ext p (p.ice a) := by
  refine ⟨⟨[], by simp⟩, fun _ z => .inl z, fun _ z => .inl z, fun b z => ?_, fun b u z n => z, fun b u z n => z, fun b u z => ⟨u, z⟩, fun _ _ z => z⟩
  rcases z with z | z
  · exact .inl z
  · exact .inr (.inr (by rw [z]; exact hr))
theorem wf_ice (w : WF p) (hr : a ∈ p.rho) : WF (p.ice a) := by
  refine ⟨w.nd, w.hs, fun b m => ?_⟩
  rcases m with m | m
  · exact w.fs b m
  · rw [m]; exact w.hs a hr
theorem CellOk.mono {c : Cell} {b : Addr} (e : Ext p p') (h : CellOk K p c b) (k : p'.H b = p.H b) (kf : p'.F b → p.F b) : CellOk K p' c b := by
  cases c with
  | lst xs =>
    obtain ⟨nf, vs, h1, h2⟩ := h
    exact ⟨fun z => nf (kf z), vs, by rw [k]; exact h1, h2.mono e.hf⟩
  | frz xs =>
    obtain ⟨vs, h1, h2⟩ := h
    exact ⟨vs, h1.mono e.hf, h2.mono e.hf⟩
  | dk xs =>
    obtain ⟨nf, vs, h1, h2⟩ := h
    exact ⟨fun z => nf (kf z), vs, by rw [k]; exact h1, h2.mono e.hf⟩
  | dt xs =>
    obtain ⟨nf, vs, h1, h2⟩ := h
    exact ⟨fun z => nf (kf z), vs, by rw [k]; exact h1, h2.mono e.hf⟩
  | fz x => exact RD.mono e.hf h
  | own c xs =>
    obtain ⟨eb, nf, vs, h1, h2⟩ := h
    exact ⟨eb, fun z => nf (kf z), vs, by rw [k]; exact h1, h2.mono e.hf⟩
  | dkc kvs =>
    obtain ⟨nf, h1⟩ := h
    exact ⟨fun z => nf (kf z), by rw [k]; exact h1⟩
  | dtc kvs =>
    obtain ⟨nf, h1⟩ := h
    exact ⟨fun z => nf (kf z), by rw [k]; exact h1⟩
  | lsc as =>
    obtain ⟨nf, h1⟩ := h
    exact ⟨fun z => nf (kf z), by rw [k]; exact h1⟩
  | ins C ns xs =>
    obtain ⟨nf, dx, vs, h1, hl, h2⟩ := h
    exact ⟨fun z => nf (kf z), dx, vs, by rw [k]; exact h1, hl, h2.mono e.hf⟩
theorem CellOk.hf {c : Cell} {b : Addr} (h : CellOk K p c b) (e : HF p p') (k : p'.H b = p.H b) (kf : p'.F b → p.F b) : CellOk K p' c b := by
  cases c with
  | lst xs =>
    obtain ⟨nf, vs, h1, h2⟩ := h
    exact ⟨fun z => nf (kf z), vs, by rw [k]; exact h1, h2.mono e⟩
  | frz xs =>
    obtain ⟨vs, h1, h2⟩ := h
    exact ⟨vs, h1.mono e, h2.mono e⟩
  | dk xs =>
    obtain ⟨nf, vs, h1, h2⟩ := h
    exact ⟨fun z => nf (kf z), vs, by rw [k]; exact h1, h2.mono e⟩
  | dt xs =>
    obtain ⟨nf, vs, h1, h2⟩ := h
    exact ⟨fun z => nf (kf z), vs, by rw [k]; exact h1, h2.mono e⟩
  | fz x => exact RD.mono e h
  | own c xs =>
    obtain ⟨eb, nf, vs, h1, h2⟩ := h
    exact ⟨eb, fun z => nf (kf z), vs, by rw [k]; exact h1, h2.mono e⟩
  | dkc kvs =>
    obtain ⟨nf, h1⟩ := h
    exact ⟨fun z => nf (kf z), by rw [k]; exact h1⟩
  | dtc kvs =>
    obtain ⟨nf, h1⟩ := h
    exact ⟨fun z => nf (kf z), by rw [k]; exact h1⟩
  | lsc as =>
    obtain ⟨nf, h1⟩ := h
    exact ⟨fun z => nf (kf z), by rw [k]; exact h1⟩
  | ins C ns xs =>
    obtain ⟨nf, dx, vs, h1, hl, h2⟩ := h
    exact ⟨fun z => nf (kf z), dx, vs, by rw [k]; exact h1, hl, h2.mono e⟩
theorem Cells.get {l : LS} {i : Nat} {c : Cell} (h : Cells K p l) (e : l[i]? = some c) : ∃ a, p.rho[i]? = some a ∧ CellOk K p c a := h.2 i c e
theorem Cells.frz {l : LS} {o : HO} (w : WF p) (ce : Cells K p l) (h : p.H a = none) : Cells K (p.frz a o) l := by
  refine ⟨ce.1, fun i c e => ?_⟩
  obtain ⟨b, h1, h2⟩ := ce.2 i c e
  have nb : b ≠ a := fun z => w.nrho h (by rw [← z]; exact List.mem_of_getElem? h1)
  refine ⟨b, h1, h2.mono (ext_frz h) (by show upd _ _ _ _ = _; rw [upd_ne nb]) fun z => ?_⟩
  rcases z with z | z
  · exact z
  · exact absurd z nb
theorem Cells.new {l : LS} {o : HO} {c : Cell} (w : WF p) (ce : Cells K p l) (h : p.H a = none) (hc : CellOk K (p.new a o) c a) : Cells K (p.new a o) (l ++ [c]) := by
  refine ⟨by simp [ce.1], fun i d e => ?_⟩
  by_cases hi : i < l.length
  · rw [List.getElem?_append_left hi] at e
    obtain ⟨b, h1, h2⟩ := ce.2 i d e
    have nb : b ≠ a := fun z => w.nrho h (by rw [← z]; exact List.mem_of_getElem? h1)
    refine ⟨b, ?_, h2.mono (ext_new h) (by show upd _ _ _ _ = _; rw [upd_ne nb]) fun z => z⟩
    show (p.rho ++ [a])[i]? = _
    rw [List.getElem?_append_left (by rw [← ce.1]; exact hi)]
    exact h1
  · have hi' : i = l.length := by
      have := (List.getElem?_eq_some_iff.mp e).1
      simp at this
      omega
    subst hi'
    rw [List.getElem?_append_right (Nat.le_refl _)] at e
    simp at e
    subst e
    refine ⟨a, ?_, hc⟩
    show (p.rho ++ [a])[l.length]? = _
    rw [ce.1, List.getElem?_append_right (Nat.le_refl _)]
    simp
theorem nodup_at {xs : List Addr} (nd : xs.Nodup) {i j : Nat} {a : Addr} (h : xs[i]? = some a) (h' : xs[j]? = some a) : i = j := by
  obtain ⟨h1, e1⟩ := List.getElem?_eq_some_iff.mp h
  obtain ⟨h2, e2⟩ := List.getElem?_eq_some_iff.mp h'
  exact (List.getElem_inj nd).mp (e1.trans e2.symm)
theorem Cells.put {l : LS} {o : HO} {c : Cell} {i : Nat} (w : WF p) (ce : Cells K p l) (hi : p.rho[i]? = some a) (nf : ¬ p.F a) (ht : ∀ vs, p.H a ≠ some (.tup vs)) (hc : CellOk K (p.put a o) c a) : Cells K (p.put a o) (l.set i c) := by
  refine ⟨by simp [ce.1], fun j d e => ?_⟩
  by_cases hj : i = j
  · subst hj
    have hl : i < l.length := by
      have := (List.getElem?_eq_some_iff.mp e).1
      simpa using this
    rw [List.getElem?_set_self hl] at e
    cases e
    exact ⟨a, hi, hc⟩
  · rw [List.getElem?_set_ne hj] at e
    obtain ⟨b, h1, h2⟩ := ce.2 j d e
    have nb : b ≠ a := fun z => hj (nodup_at w.nd hi (by rw [← z]; exact h1))
    exact ⟨b, h1, h2.mono (ext_put (List.mem_of_getElem? hi) nf ht) (by show upd _ _ _ _ = _; rw [upd_ne nb]) fun z => z⟩
/-- a cell locked for ever -/
abbrev Pt.lck (p : Pt) (a : Addr) (o : HO) : Pt := ⟨upd p.H a o, p.rho, fun b => p.F b ∨ b = a⟩
theorem ext_lck {o : HO} (hr : a ∈ p.rho) (hf : ¬ p.F a) (ht : ∀ vs, p.H a ≠ some (.tup vs)) : Ext p (p.lck a o) := by
  refine ⟨⟨[], by simp⟩, fun _ z => .inl z, fun _ z => .inl z, fun b z => ?_, fun b u z n => ?_, fun b u z n => ?_, fun b u z => upd_some z, fun b u z => by show upd _ _ _ _ = _; rw [upd_ne (fun e => ht u (by rw [← e]; exact z))]; exact z⟩
  · rcases z with z | z
    · exact .inl z
    · exact .inr (.inr (by rw [z]; exact hr))
  · show upd _ _ _ _ = _
    rw [upd_ne (fun e => n (by rw [e]; exact hr))]; exact z
  · show upd _ _ _ _ = _
    rw [upd_ne (fun e => hf (by rw [← e]; exact n))]; exact z
theorem wf_lck {o : HO} (w : WF p) : WF (p.lck a o) := by
  refine ⟨w.nd, fun b m => ?_, fun b m => ?_⟩
  · obtain ⟨u, z⟩ := w.hs b m
    exact upd_some z
  · rcases m with m | m
    · obtain ⟨u, z⟩ := w.fs b m
      exact upd_some z
    · exact ⟨o, by show upd _ _ _ _ = _; rw [m, upd_same]⟩
theorem Cells.lck {l : LS} {o : HO} {c c' : Cell} {i : Nat} (w : WF p) (ce : Cells K p l) (hi : p.rho[i]? = some a) (hc' : l[i]? = some c') (nf : ¬ p.F a) (ht : ∀ vs, p.H a ≠ some (.tup vs)) (hc : CellOk K (p.lck a o) c a) : Cells K (p.lck a o) (l.set i c) := by
  have hr := List.mem_of_getElem? hi
  refine ⟨by simp [ce.1], fun j d e' => ?_⟩
  by_cases hj : i = j
  · subst hj
    have hl : i < l.length := (List.getElem?_eq_some_iff.mp hc').1
    rw [List.getElem?_set_self hl] at e'
    cases e'
    exact ⟨a, hi, hc⟩
  · rw [List.getElem?_set_ne hj] at e'
    obtain ⟨b, h1, h2⟩ := ce.2 j d e'
    have nb : b ≠ a := fun z => hj (nodup_at w.nd hi (by rw [← z]; exact h1))
    refine ⟨b, h1, h2.mono (ext_lck hr nf ht) (by show upd _ _ _ _ = _; rw [upd_ne nb]) fun z => ?_⟩
    rcases z with z | z
    · exact z
    · exact absurd z nb
theorem Cells.iceD {l : LS} {c : Cell} {x : D} {i : Nat} (w : WF p) (ce : Cells K p l) (hi : p.rho[i]? = some a) (_ : l[i]? = some c) (hx : RD K (p.ice a) x (.ref a)) : Cells K (p.ice a) (l.set i (.fz x)) := by
  have hr := List.mem_of_getElem? hi
  have ex := ext_ice hr
  refine ⟨by simp [ce.1], fun j d e' => ?_⟩
  by_cases hj : i = j
  · subst hj
    have hl : i < l.length := (List.getElem?_eq_some_iff.mp ‹l[i]? = some c›).1
    rw [List.getElem?_set_self hl] at e'
    cases e'
    exact ⟨a, hi, hx⟩
  · rw [List.getElem?_set_ne hj] at e'
    obtain ⟨b, h1, h2⟩ := ce.2 j d e'
    have nb : b ≠ a := fun z => hj (nodup_at w.nd hi (by rw [← z]; exact h1))
    refine ⟨b, h1, h2.mono ex rfl fun z => ?_⟩
    rcases z with z | z
    · exact z
    · exact absurd z nb
theorem Cells.iceL {l : LS} {c : Cell} {xs : List D} {vs : List V} {i : Nat} (w : WF p) (ce : Cells K p l) (hi : p.rho[i]? = some a) (e : l[i]? = some c) (la : LstAt (p.ice a) a vs) (rv : RDs K (p.ice a) xs vs) : Cells K (p.ice a) (l.set i (.frz xs)) := by
  have hr := List.mem_of_getElem? hi
  have ex := ext_ice hr
  refine ⟨by simp [ce.1], fun j d e' => ?_⟩
  by_cases hj : i = j
  · subst hj
    have hl : i < l.length := (List.getElem?_eq_some_iff.mp e).1
    rw [List.getElem?_set_self hl] at e'
    cases e'
    exact ⟨a, hi, vs, la, rv⟩
  · rw [List.getElem?_set_ne hj] at e'
    obtain ⟨b, h1, h2⟩ := ce.2 j d e'
    have nb : b ≠ a := fun z => hj (nodup_at w.nd hi (by rw [← z]; exact h1))
    refine ⟨b, h1, h2.mono ex rfl fun z => ?_⟩
    rcases z with z | z
    · exact z
    · exact absurd z nb
theorem Cells.ice {l : LS} {xs : List D} {i : Nat} (w : WF p) (ce : Cells K p l) (hi : p.rho[i]? = some a) (e : l[i]? = some (.lst xs)) : Cells K (p.ice a) (l.set i (.frz xs)) ∧ RD K (p.ice a) (.lst xs) (.ref a) := by
  have hr := List.mem_of_getElem? hi
  have ex := ext_ice hr
  obtain ⟨b, h1, nf, vs, h2, h3⟩ := ce.2 i _ e
  rw [hi] at h1
  cases h1
  have la : LstAt (p.ice a) a vs := ⟨.inr rfl, h2⟩
  refine ⟨⟨by simp [ce.1], fun j d e' => ?_⟩, .lst la (h3.mono ex.hf)⟩
  by_cases hj : i = j
  · subst hj
    have hl : i < l.length := (List.getElem?_eq_some_iff.mp e).1
    rw [List.getElem?_set_self hl] at e'
    cases e'
    exact ⟨a, hi, vs, la, h3.mono ex.hf⟩
  · rw [List.getElem?_set_ne hj] at e'
    obtain ⟨b, h1, h2⟩ := ce.2 j d e'
    have nb : b ≠ a := fun z => hj (nodup_at w.nd hi (by rw [← z]; exact h1))
    refine ⟨b, h1, h2.mono ex rfl fun z => ?_⟩
    rcases z with z | z
    · exact z
    · exact absurd z nb
end
end QL
set_option Elab.async false
set_option linter.all false
set_option maxRecDepth 100000
set_option maxHeartbeats 4000000
/-! QL2: the judgements over plain data, names, constants, operators, tests, blocks. -/
namespace QL
open PySem L2

abbrev EK := Ex → LS → Prop
abbrev WE := SS → LS → (P → LS → Prop) → EK → Prop
abbrev WT := SS → LS → (Bool → LS → Prop) → EK → Prop
abbrev WA := SS → LS → (List P → LS → Prop) → EK → Prop
structure ED where
  nx : SS → LS → Prop
  rt : P → LS → Prop
  bk : SS → LS → Prop
  ct : SS → LS → Prop
  ex : Ex → SS → LS → Prop
abbrev WS := ED → SS → LS → Prop
abbrev WG := P → SS → LS → (SS → LS → Prop) → Prop
abbrev WGs := List D → SS → LS → (SS → LS → Prop) → Prop

section
variable (K : PySem.W.Frag) (W : WX)
def LinkE (p : Pt) (σ : St) (σd : SS) (E : EK) : Prop := ∀ ex l' cls d p', Ext p p' → Rel K p' σ σd l' → XR K p' ex cls d → E ex l' → W cls d σ p'.H
def cE (w : WE) : TE := fun σ H Q => ∃ (p : Pt) (σd : SS) (l : LS) (Qd : P → LS → Prop) (Ed : EK), p.H = H ∧ Rel K p σ σd l ∧ w σd l Qd Ed ∧
  (∀ d l' v p', Ext p p' → Rel K p' σ σd l' → RP K p' d v → Qd d l' → Q v p'.H) ∧ LinkE K W p σ σd Ed
def cT (w : WT) : TT := fun σ H Q => ∃ (p : Pt) (σd : SS) (l : LS) (Qd : Bool → LS → Prop) (Ed : EK), p.H = H ∧ Rel K p σ σd l ∧ w σd l Qd Ed ∧
  (∀ b l' p', Ext p p' → Rel K p' σ σd l' → Qd b l' → Q b p'.H) ∧ LinkE K W p σ σd Ed
def RPs (p : Pt) : List P → List V → Prop := Paired (RP K p)
def cA (w : WA) : TA := fun σ H Q => ∃ (p : Pt) (σd : SS) (l : LS) (Qd : List P → LS → Prop) (Ed : EK), p.H = H ∧ Rel K p σ σd l ∧ w σd l Qd Ed ∧
  (∀ ds l' vs p', Ext p p' → Rel K p' σ σd l' → RPs K p' ds vs → Qd ds l' → Q vs p'.H) ∧ LinkE K W p σ σd Ed
structure EndsR (p : Pt) (D : Ends) (Dd : ED) : Prop where
  nx : ∀ p' σ' σd' l', Ext p p' → Rel K p' σ' σd' l' → Dd.nx σd' l' → D.nx σ' p'.H
  bk : ∀ p' σ' σd' l', Ext p p' → Rel K p' σ' σd' l' → Dd.bk σd' l' → D.bk σ' p'.H
  ct : ∀ p' σ' σd' l', Ext p p' → Rel K p' σ' σd' l' → Dd.ct σd' l' → D.ct σ' p'.H
  rt : ∀ p' d v l', Ext p p' → WF p' → Cells K p' l' → RP K p' d v → Dd.rt d l' → D.rt v p'.H
  ex : ∀ p' σ' σd' l' ex cls dd, Ext p p' → Rel K p' σ' σd' l' → XR K p' ex cls dd → Dd.ex ex σd' l' → W cls dd σ' p'.H
def cS (w : WS) : TS := fun D σ H => ∃ (p : Pt) (σd : SS) (l : LS) (Dd : ED), p.H = H ∧ Rel K p σ σd l ∧ w Dd σd l ∧ EndsR K W p D Dd
def cG (w : WG) : TG := fun v σ H Q => ∃ (p : Pt) (σd : SS) (l : LS) (d : P) (Qd : SS → LS → Prop), p.H = H ∧ Rel K p σ σd l ∧ RP K p d v ∧ w d σd l Qd ∧
  (∀ p' σ' σd' l', Ext p p' → Rel K p' σ' σd' l' → Qd σd' l' → Q σ' p'.H)
def cGs (w : WGs) : TGs := fun vs σ H Q => ∃ (p : Pt) (σd : SS) (l : LS) (ds : List D) (Qd : SS → LS → Prop), p.H = H ∧ Rel K p σ σd l ∧ RDs K p ds vs ∧ w ds σd l Qd ∧
  (∀ p' σ' σd' l', Ext p p' → Rel K p' σ' σd' l' → Qd σd' l' → Q σ' p'.H)
end
def QE (X : Cx) (W : WX) (e : Expr) (w : WE) : Prop := PE X e (cE X.K W w)
def QT (X : Cx) (W : WX) (e : Expr) (w : WT) : Prop := PT X e (cT X.K W w)
def QW (X : Cx) (W : WX) (e : Expr) (w : WT) : Prop := PW X e (cT X.K W w)
def QA (X : Cx) (W : WX) (es : List Expr) (w : WA) : Prop := PA X es (cA X.K W w)
def QS (X : Cx) (W : WX) (st : Stmt) (w : WS) : Prop := PS X st (cS X.K W w)
def QSs (X : Cx) (W : WX) (st : List Stmt) (w : WS) : Prop := PSs X st (cS X.K W w)
def QG (X : Cx) (tg : Expr) (w : WG) : Prop := PG X tg (cG X.K w)
def QGs (X : Cx) (ts : List Expr) (w : WGs) : Prop := PGs X ts (cGs X.K w)

theorem PE.imp {X : Cx} {e : Expr} {t t' : TE} (h : PE X e t) (k : ∀ σ H Q, t' σ H Q → t σ H Q) : PE X e t' := ⟨fun pins s σ H Q I q => h.run pins s σ H Q I (k σ H Q q)⟩
theorem PT.imp {X : Cx} {e : Expr} {t t' : TT} (h : PT X e t) (k : ∀ σ H Q, t' σ H Q → t σ H Q) : PT X e t' := ⟨fun pins s σ H Q I q => h.run pins s σ H Q I (k σ H Q q)⟩
theorem PW.imp {X : Cx} {e : Expr} {t t' : TT} (h : PW X e t) (k : ∀ σ H Q, t' σ H Q → t σ H Q) : PW X e t' := ⟨fun wh pins s σ H Q I q => h.run wh pins s σ H Q I (k σ H Q q)⟩
theorem PA.imp {X : Cx} {e : List Expr} {t t' : TA} (h : PA X e t) (k : ∀ σ H Q, t' σ H Q → t σ H Q) : PA X e t' := ⟨fun pos pins s σ H Q I q => h.run pos pins s σ H Q I (k σ H Q q)⟩
theorem PS.imp {X : Cx} {e : Stmt} {t t' : TS} (h : PS X e t) (k : ∀ D σ H, t' D σ H → t D σ H) : PS X e t' := ⟨fun pins s σ H D I q => h.run pins s σ H D I (k D σ H q)⟩
theorem PSs.imp {X : Cx} {e : List Stmt} {t t' : TS} (h : PSs X e t) (k : ∀ D σ H, t' D σ H → t D σ H) : PSs X e t' := ⟨fun pins s σ H D I q => h.run pins s σ H D I (k D σ H q)⟩
theorem PG.imp {X : Cx} {e : Expr} {t t' : TG} (h : PG X e t) (k : ∀ v σ H Q, t' v σ H Q → t v σ H Q) : PG X e t' := ⟨fun pins s σ H v u Q I r q => h.run pins s σ H v u Q I r (k v σ H Q q)⟩
theorem PGs.imp {X : Cx} {e : List Expr} {t t' : TGs} (h : PGs X e t) (k : ∀ v σ H Q, t' v σ H Q → t v σ H Q) : PGs X e t' := ⟨fun pins s σ H v u Q I r q => h.run pins s σ H v u Q I r (k v σ H Q q)⟩

section
variable {K : PySem.W.Frag} {W : WX} {p p' : Pt} {σ σ' : St} {σd σd' : SS} {l l' : LS} {H : Hp}
theorem LinkE.mono {E : EK} (h : LinkE K W p σ σd E) (e : Ext p p') : LinkE K W p' σ σd E := fun ex l' cls d p2 e2 r x q => h ex l' cls d p2 (e.trans e2) r x q
theorem EndsR.mono {D : Ends} {Dd : ED} (h : EndsR K W p D Dd) (e : Ext p p') : EndsR K W p' D Dd :=
  ⟨fun p2 a b c f => h.nx p2 a b c (e.trans f), fun p2 a b c f => h.bk p2 a b c (e.trans f), fun p2 a b c f => h.ct p2 a b c (e.trans f), fun p2 a b c f => h.rt p2 a b c (e.trans f), fun p2 a b c d f g x => h.ex p2 a b c d f g (e.trans x)⟩
theorem cE_ok {w : WE} {Q : VK} {Qd : P → LS → Prop} {Ed : EK} (R : Rel K p σ σd l) (hw : w σd l Qd Ed) (lk : LinkE K W p σ σd Ed)
    (k : ∀ d l' v p', Ext p p' → Rel K p' σ σd l' → RP K p' d v → Qd d l' → Q v p'.H) : cE K W w σ p.H Q := ⟨p, σd, l, Qd, Ed, rfl, R, hw, k, lk⟩
theorem cT_ok {w : WT} {Q : Bool → Hp → Prop} {Qd : Bool → LS → Prop} {Ed : EK} (R : Rel K p σ σd l) (hw : w σd l Qd Ed) (lk : LinkE K W p σ σd Ed)
    (k : ∀ b l' p', Ext p p' → Rel K p' σ σd l' → Qd b l' → Q b p'.H) : cT K W w σ p.H Q := ⟨p, σd, l, Qd, Ed, rfl, R, hw, k, lk⟩
theorem cA_ok {w : WA} {Q : List V → Hp → Prop} {Qd : List P → LS → Prop} {Ed : EK} (R : Rel K p σ σd l) (hw : w σd l Qd Ed) (lk : LinkE K W p σ σd Ed)
    (k : ∀ ds l' vs p', Ext p p' → Rel K p' σ σd l' → RPs K p' ds vs → Qd ds l' → Q vs p'.H) : cA K W w σ p.H Q := ⟨p, σd, l, Qd, Ed, rfl, R, hw, k, lk⟩
theorem cS_ok {w : WS} {D : Ends} {Dd : ED} (R : Rel K p σ σd l) (hw : w Dd σd l) (k : EndsR K W p D Dd) : cS K W w D σ p.H := ⟨p, σd, l, Dd, rfl, R, hw, k⟩
theorem cG_ok {w : WG} {d : P} {v : V} {Q : St → Hp → Prop} {Qd : SS → LS → Prop} (R : Rel K p σ σd l) (r : RP K p d v) (hw : w d σd l Qd)
    (k : ∀ p' σ' σd' l', Ext p p' → Rel K p' σ' σd' l' → Qd σd' l' → Q σ' p'.H) : cG K w v σ p.H Q := ⟨p, σd, l, d, Qd, rfl, R, r, hw, k⟩
theorem Rel.ext (R : Rel K p σ σd l) (e : Ext p p') (w : WF p') (c : Cells K p' l') : Rel K p' σ σd l' := ⟨w, R.sl.mono e, c⟩
theorem Rel.set (R : Rel K p σ σd l) {i : Nat} {d : P} {v : V} (r : RP K p d v) : Rel K p (σ.set i (some v)) (σd.set i (some d)) l := ⟨R.wf, R.sl.set r, R.ce⟩
theorem EndsR.link {D : Ends} {Dd : ED} (h : EndsR K W p D Dd) : LinkE K W p σ σd (fun ex l => Dd.ex ex σd l) := fun ex l' cls d p' e r x q => h.ex p' σ σd l' ex cls d e r x q

/-! ### what stands in a sequence -/
def seqOf (l : LS) : P → Option (List D)
  | .d (.tup xs) => some xs
  | .d (.lst xs) => some xs
  | .d (.scr xs) => some xs
  | .d (.ktu xs) => some xs
  | .d (.tux xs) => some xs
  | .loc n => match l[n]? with
    | some (.lst xs) => some xs
    | some (.frz xs) => some xs
    | some (.own _ xs) => some xs
    | _ => none
  | _ => none
theorem seqOf_ok {x : P} {v : V} {xs : List D} (ce : Cells K p l) (r : RP K p x v) (h : seqOf l x = some xs) : ∃ a vs, v = .ref a ∧ (SqL K p.H a vs ∨ SqT K p.H a vs) ∧ RDs K p xs vs := by
  cases x with
  | d x =>
    cases x with
    | tup ys =>
      cases h
      cases r with
      | tup h1 h2 => exact ⟨_, _, rfl, .inr h1.sq, h2⟩
    | lst ys =>
      cases h
      cases r with
      | lst h1 h2 => exact ⟨_, _, rfl, .inl (LstAt.sq (K := K) h1), h2⟩
    | scr ys =>
      cases h
      cases r with
      | scr h1 h2 => exact ⟨_, _, rfl, .inl h1.sq, h2⟩
    | non => cases h
    | bl _ => cases h
    | int _ => cases h
    | str _ => cases h
    | ty _ => cases h
    | obj _ _ _ => cases h
    | dk _ _ => cases h
    | dt _ _ => cases h
    | ktu ys =>
      cases h
      cases r with
      | ktu h1 h2 => exact ⟨_, _, rfl, .inr (seqT_empty h1), h2⟩
    | tux ys =>
      cases h
      cases r with
      | tux _ h1 _ h2 => exact ⟨_, _, rfl, .inr (.inl (.inr ⟨_, h1⟩)), h2⟩
  | loc n =>
    obtain ⟨a, h1, rfl⟩ := r
    cases e : l[n]? with
    | none => simp [seqOf, e] at h
    | some c =>
      obtain ⟨b, h2, h3⟩ := ce.2 n c e
      rw [h1] at h2
      cases h2
      cases c with
      | lst ys =>
        simp [seqOf, e] at h
        subst h
        obtain ⟨_, vs, h4, h5⟩ := h3
        exact ⟨a, vs, rfl, .inl (.inl (.inl h4)), h5⟩
      | frz ys =>
        simp [seqOf, e] at h
        subst h
        obtain ⟨vs, h4, h5⟩ := h3
        exact ⟨a, vs, rfl, .inl (LstAt.sq (K := K) h4), h5⟩
      | dk _ => simp [seqOf, e] at h
      | dt _ => simp [seqOf, e] at h
      | fz _ => simp [seqOf, e] at h
      | own _ ys =>
        simp [seqOf, e] at h
        subst h
        obtain ⟨_, _, vs, h4, h5⟩ := h3
        exact ⟨a, vs, rfl, .inl (.inl (.inl h4)), h5⟩
      | dkc _ => simp [seqOf, e] at h
      | dtc _ => simp [seqOf, e] at h
      | lsc _ => simp [seqOf, e] at h
      | ins _ _ _ => simp [seqOf, e] at h
  | exc _ _ _ _ => cases h
/-- a list, not a tuple; its object itself stands in the heap -/
def lstOf (l : LS) : P → Option (List D)
  | .d (.lst xs) => some xs
  | .loc n => match l[n]? with
    | some (.lst xs) => some xs
    | some (.frz xs) => some xs
    | some (.own _ xs) => some xs
    | _ => none
  | _ => none
theorem lstOf_ok {x : P} {v : V} {xs : List D} (ce : Cells K p l) (r : RP K p x v) (h : lstOf l x = some xs) : ∃ a vs, v = .ref a ∧ p.H a = some (.lst vs) ∧ RDs K p xs vs := by
  cases x with
  | d x =>
    cases x with
    | lst ys =>
      cases h
      cases r with
      | lst h1 h2 => exact ⟨_, _, rfl, h1.2, h2⟩
    | tup _ => cases h
    | scr _ => cases h
    | non => cases h
    | bl _ => cases h
    | int _ => cases h
    | str _ => cases h
    | ty _ => cases h
    | obj _ _ _ => cases h
    | dk _ _ => cases h
    | dt _ _ => cases h
    | ktu _ => cases h
    | tux _ => cases h
  | loc n =>
    obtain ⟨a, h1, rfl⟩ := r
    cases e : l[n]? with
    | none => simp [lstOf, e] at h
    | some c =>
      obtain ⟨b, h2, h3⟩ := ce.2 n c e
      rw [h1] at h2
      cases h2
      cases c with
      | lst ys =>
        simp [lstOf, e] at h
        subst h
        obtain ⟨_, vs, h4, h5⟩ := h3
        exact ⟨a, vs, rfl, h4, h5⟩
      | frz ys =>
        simp [lstOf, e] at h
        subst h
        obtain ⟨vs, h4, h5⟩ := h3
        exact ⟨a, vs, rfl, h4.2, h5⟩
      | dk _ => simp [lstOf, e] at h
      | dt _ => simp [lstOf, e] at h
      | fz _ => simp [lstOf, e] at h
      | own _ ys =>
        simp [lstOf, e] at h
        subst h
        obtain ⟨_, _, vs, h4, h5⟩ := h3
        exact ⟨a, vs, rfl, h4, h5⟩
      | dkc _ => simp [lstOf, e] at h
      | dtc _ => simp [lstOf, e] at h
      | lsc _ => simp [lstOf, e] at h
      | ins _ _ _ => simp [lstOf, e] at h
  | exc _ _ _ _ => cases h
theorem lst_seq {x : P} {xs : List D} (h : lstOf l x = some xs) : seqOf l x = some xs := by
  cases x with
  | d x => cases x <;> first | (cases h; rfl) | cases h
  | loc n => exact h
  | exc _ _ _ _ => cases h
end

/-! ### operators by values -/
abbrev OD2 := P → P → LS → (P → LS → Prop) → Prop
abbrev OD1 := P → LS → (P → LS → Prop) → Prop
abbrev ODn := List P → LS → (P → LS → Prop) → Prop
abbrev ODm := P → List P → LS → (P → LS → Prop) → Prop
section
variable (K : PySem.W.Frag)
/-- what is wanted behind an operation at p -/
def After (p : Pt) (Qd : P → LS → Prop) (Q : VK) : Prop := ∀ d l' v p', Ext p p' → WF p' → Cells K p' l' → RP K p' d v → Qd d l' → Q v p'.H
def RefOp (r : R2) (rd : OD2) : Prop := ∀ (p : Pt) (l : LS) (x y : P) (vx vy : V) (Qd : P → LS → Prop) (Q : VK), WF p → Cells K p l → RP K p x vx → RP K p y vy → rd x y l Qd → After K p Qd Q → r vx vy p.H Q
def RefUn (r : V → Hp → VK → Prop) (rd : OD1) : Prop := ∀ (p : Pt) (l : LS) (x : P) (vx : V) (Qd : P → LS → Prop) (Q : VK), WF p → Cells K p l → RP K p x vx → rd x l Qd → After K p Qd Q → r vx p.H Q
def RefCall (r : List V → Hp → VK → Prop) (rd : ODn) : Prop := ∀ (p : Pt) (l : LS) (xs : List P) (vs : List V) (Qd : P → LS → Prop) (Q : VK), WF p → Cells K p l → RPs K p xs vs → rd xs l Qd → After K p Qd Q → r vs p.H Q
end
theorem After.same {K : PySem.W.Frag} {p : Pt} {Qd : P → LS → Prop} {Q : VK} (k : After K p Qd Q) (w : WF p) {l : LS} (c : Cells K p l) {d : P} {v : V} (r : RP K p d v) (q : Qd d l) : Q v p.H := k d l v p (Ext.refl p) w c r q

section
variable {X : Cx} {W : WX} {a b c e o : Expr} {es : List Expr} {wa wb wc we : WE} {wt wt' : WT} {ws : WA} {pos : Pos}
/-! ### names, constants -/
def wVar (i : Nat) (σ : SS) (l : LS) (Q : P → LS → Prop) (_ : EK) : Prop := match σ[i]? with
  | some (some d) => Q d l
  | _ => False
def wC (d : D) (_ : SS) (l : LS) (Q : P → LS → Prop) (_ : EK) : Prop := Q (.d d) l
theorem qe_var (i : Nat) {x : Str} (hN : X.N[i]? = some x := by rfl) (hv : Vis X.env.scope x := by first | exact Or.inl rfl | exact Or.inr (Or.inl rfl) | exact Or.inr (Or.inr rfl)) (hd : (x == ("__debug__" : Str)) = false := by decide)
    (hcd : (x == ("__classdict__" : Str)) = false := by decide) : QE X W (.Name x pos) (wVar i) := PE.imp (pe_var hN hv hd hcd) fun σ H Q ⟨p, σd, l, Qd, Ed, hH, R, hw, k, _⟩ => by
  subst hH
  unfold wVar at hw
  split at hw
  · rename_i d hd
    obtain ⟨v, h1, h2⟩ := R.sl.2 i d hd
    exact ⟨v, h1, k d l v p (Ext.refl p) R h2 hw⟩
  · exact hw.elim
theorem qe_const {v : V} {d : D} (h : PE X e (tC v)) (r : ∀ p, RD X.K p d v) : QE X W e (wC d) := PE.imp h fun σ H Q ⟨p, σd, l, Qd, Ed, hH, R, hw, k, _⟩ => by
  subst hH
  exact k (.d d) l v p (Ext.refl p) R (r p) hw
theorem qe_int {i j} : QE X W (.Constant (.int i) j pos) (wC (.int i)) := qe_const pe_int fun _ => .int i
theorem qe_bl {i j} : QE X W (.Constant (.bool i) j pos) (wC (.bl i)) := qe_const pe_bl fun _ => .bl i
theorem qe_non {j} : QE X W (.Constant .none j pos) (wC .non) := qe_const pe_non fun _ => .non
theorem qe_str {i j} : QE X W (.Constant (.str i) j pos) (wC (.str i)) := qe_const pe_str fun _ => .str i
/-- a constant of the module -/
theorem qe_glob {x : Str} {v : V} {d : D} (hg : Gl X x) (hm : ∃ u, X.mg x = some u ∧ RelV v u) (r : ∀ p, RD X.K p d v) (hd : (x == ("__debug__" : Str)) = false := by decide) : QE X W (.Name x pos) (wC d) := by
  obtain ⟨u, h1, h2⟩ := hm
  exact qe_const (pe_glob hg h1 h2 hd) r
/-- a built-in type as a value -/
theorem qe_type {x : Str} {n : String} (hg : Gl X x) (hm : X.mg x = none) (hv : bootBuiltins x = some (.type n)) (hn : x ≠ "__name__" := by decide) (hd : (x == ("__debug__" : Str)) = false := by decide) : QE X W (.Name x pos) (wC (.ty n)) :=
  qe_const (pe_bltn (v := .ty n) hg hm hv rfl hn hd) fun _ => .ty n

/-! ### operators -/
def kOp2 (rd : OD2) (x : P) (Q : P → LS → Prop) (y : P) (l : LS) : Prop := rd x y l Q
def kOp1 (rd : OD2) (wb : WE) (σ : SS) (Q : P → LS → Prop) (E : EK) (x : P) (l : LS) : Prop := wb σ l (kOp2 rd x Q) E
def wOp (rd : OD2) (wa wb : WE) (σ : SS) (l : LS) (Q : P → LS → Prop) (E : EK) : Prop := wa σ l (kOp1 rd wb σ Q E) E
def kUn (rd : OD1) (Q : P → LS → Prop) (x : P) (l : LS) : Prop := rd x l Q
def wUn (rd : OD1) (wa : WE) (σ : SS) (l : LS) (Q : P → LS → Prop) (E : EK) : Prop := wa σ l (kUn rd Q) E
theorem op_ok {r : R2} {rd : OD2} (hr : RefOp X.K r rd) {σ : St} {H : Hp} {Q : VK} (h : cE X.K W (wOp rd wa wb) σ H Q) : tOp r (cE X.K W wa) (cE X.K W wb) σ H Q := by
  obtain ⟨p, σd, l, Qd, Ed, hH, R, hw, k, lk⟩ := h
  subst hH
  exact cE_ok R hw lk fun x l1 vx p1 e1 R1 r1 q1 => cE_ok R1 q1 (lk.mono e1) fun y l2 vy p2 e2 R2 r2 q2 =>
    hr p2 l2 x y vx vy _ _ R2.wf R2.ce (r1.mono e2) r2 q2 fun d l' v p' e' w' c' r' q' => k d l' v p' ((e1.trans e2).trans e') (R2.ext e' w' c') r' q'
theorem qe_op {op : Operator} {r : R2} {rd : OD2} (ho : OpR X (binaryOp op) r) (hr : RefOp X.K r rd) (ha : QE X W a wa) (hb : QE X W b wb) : QE X W (.BinOp a op b pos) (wOp rd wa wb) :=
  PE.imp (pe_op ho ha hb) fun _ _ _ h => op_ok hr h
theorem qe_cmp {op : CmpOp} {r : R2} {rd : OD2} (ho : OpR X (compareOp op) r) (hr : RefOp X.K r rd) (ha : QE X W a wa) (hb : QE X W b wb) (hm : behindInMarks op b = false) : QE X W (.Compare a [op] [b] pos) (wOp rd wa wb) :=
  PE.imp (pe_cmpR ho ha hb hm) fun _ _ _ h => op_ok hr h
theorem qe_un {op : UnaryOp} {r : V → Hp → VK → Prop} {rd : OD1} (ho : UnR X (unaryOp op) r) (hr : RefUn X.K r rd) (ha : QE X W a wa) : QE X W (.UnaryOp op a pos) (wUn rd wa) :=
  PE.imp (pe_un ho ha) fun σ H Q h => by
    obtain ⟨p, σd, l, Qd, Ed, hH, R, hw, k, lk⟩ := h
    subst hH
    exact cE_ok R hw lk fun x l1 vx p1 e1 R1 r1 q1 => hr p1 l1 x vx _ _ R1.wf R1.ce r1 q1 fun d l' v p' e' w' c' r' q' => k d l' v p' (e1.trans e') (R1.ext e' w' c') r' q'
/-- a test that gives a bool -/
def isB (x : P) (l : LS) (Q : Bool → LS → Prop) : Prop := match x with
  | .d (.bl b) => Q b l
  | _ => False
theorem isB_ok {K : PySem.W.Frag} {p : Pt} {l : LS} {x : P} {v : V} {Q : Bool → LS → Prop} (r : RP K p x v) (h : isB x l Q) : ∃ b, v = .bl b ∧ Q b l := by
  cases x with
  | d x =>
    cases x with
    | bl b => cases r; exact ⟨b, rfl, h⟩
    | _ => cases h
  | loc _ => cases h
  | exc _ _ _ _ => cases h
def kB (Q : Bool → LS → Prop) (x : P) (l : LS) : Prop := isB x l Q
def wB (we : WE) (σ : SS) (l : LS) (Q : Bool → LS → Prop) (E : EK) : Prop := we σ l (kB Q) E
theorem qt_cmp {op : CmpOp} {r : R2} {rd : OD2} (ho : OpR X (compareOp op) r) (hr : RefOp X.K r rd) (ha : QE X W a wa) (hb : QE X W b wb) (hm : behindInMarks op b = false) : QT X W (.Compare a [op] [b] pos) (wB (wOp rd wa wb)) :=
  PT.imp (pt_cmpR ho ha hb hm) fun σ H Q h => by
    obtain ⟨p, σd, l, Qd, Ed, hH, R, hw, k, lk⟩ := h
    subst hH
    exact op_ok (X := X) (W := W) hr (cE_ok R hw lk fun x l1 v p1 e1 R1 r1 q1 => by
      obtain ⟨b, rfl, q⟩ := isB_ok r1 q1
      exact ⟨b, rfl, k b l1 p1 e1 R1 q⟩)
theorem qt_val (h : QE X W e we) (he : ∀ whole, isTrue e X.env whole = (do let v ← whole; standAt e.pos; holding [v] (truthy v)) := by intro _; rfl) : QT X W e (wB we) :=
  PT.imp (pt_val h he) fun σ H Q h => by
    obtain ⟨p, σd, l, Qd, Ed, hH, R, hw, k, lk⟩ := h
    subst hH
    exact cE_ok R hw lk fun x l1 v p1 e1 R1 r1 q1 => by
      obtain ⟨b, rfl, q⟩ := isB_ok r1 q1
      exact ⟨b, rfl, k b l1 p1 e1 R1 q⟩
/-- truth of a value -/
def truD (x : P) (l : LS) (Q : Bool → LS → Prop) : Prop := match seqOf l x with
  | some xs => Q (!xs.isEmpty) l
  | none => match x with
    | .d .non => Q false l
    | .d (.bl b) => Q b l
    | .d (.int i) => Q (i != 0) l
    | .d (.str y) => y.length ≤ sizeLine ∧ Q ((y.length : Int) != 0) l
    | _ => False
theorem RDs.emp {K : PySem.W.Frag} {p : Pt} : ∀ {xs : List D} {vs : List V}, RDs K p xs vs → xs.isEmpty = vs.isEmpty
  | _, _, .nil => rfl
  | _, _, .cons _ _ => rfl
def kTru (Q : Bool → LS → Prop) (x : P) (l : LS) : Prop := truD x l Q
def wTru (we : WE) (σ : SS) (l : LS) (Q : Bool → LS → Prop) (E : EK) : Prop := we σ l (kTru Q) E
theorem qt_truth (h : QE X W e we) (he : ∀ whole, isTrue e X.env whole = (do let v ← whole; standAt e.pos; holding [v] (truthy v)) := by intro _; rfl) : QT X W e (wTru we) :=
  PT.imp (pt_truth h he) fun σ H Q h => by
    obtain ⟨p, σd, l, Qd, Ed, hH, R, hw, k, lk⟩ := h
    subst hH
    exact cE_ok R hw lk fun x l1 v p1 e1 R1 r1 q1 => by
      unfold kTru truD at q1
      split at q1
      · rename_i xs hx
        obtain ⟨a, vs, rfl, hs, hr⟩ := seqOf_ok R1.ce r1 hx
        refine ⟨_, ?_, k _ _ _ e1 R1 q1⟩
        rw [hr.emp]
        rcases hs with hs | hs
        · exact .inl ⟨_, hs, rfl⟩
        · exact .inr (.inl ⟨_, hs, rfl⟩)
      · split at q1
        · cases r1; exact ⟨_, rfl, k _ _ _ e1 R1 q1⟩
        · cases r1; exact ⟨_, rfl, k _ _ _ e1 R1 q1⟩
        · cases r1; exact ⟨_, rfl, k _ _ _ e1 R1 q1⟩
        · cases r1; exact ⟨_, ⟨q1.1, rfl⟩, k _ _ _ e1 R1 q1.2⟩
        · exact q1.elim
def kNot (Q : Bool → LS → Prop) (b : Bool) (l : LS) : Prop := Q (!b) l
def wNot (w : WT) (σ : SS) (l : LS) (Q : Bool → LS → Prop) (E : EK) : Prop := w σ l (kNot Q) E
def kAnd (u : WT) (σ : SS) (Q : Bool → LS → Prop) (E : EK) (b : Bool) (l : LS) : Prop := if b = true then u σ l Q E else Q false l
def wAnd (w u : WT) (σ : SS) (l : LS) (Q : Bool → LS → Prop) (E : EK) : Prop := w σ l (kAnd u σ Q E) E
def kOr (u : WT) (σ : SS) (Q : Bool → LS → Prop) (E : EK) (b : Bool) (l : LS) : Prop := if b = true then Q true l else u σ l Q E
def wOr (w u : WT) (σ : SS) (l : LS) (Q : Bool → LS → Prop) (E : EK) : Prop := w σ l (kOr u σ Q E) E
theorem qt_not (ha : QT X W a wt) : QT X W (.UnaryOp .Not a pos) (wNot wt) := PT.imp (pt_not ha) fun σ H Q h => by
  obtain ⟨p, σd, l, Qd, Ed, hH, R, hw, k, lk⟩ := h
  subst hH
  exact cT_ok R hw lk fun b l1 p1 e1 R1 q1 => k _ l1 p1 e1 R1 q1
theorem QW.qt (h : QW X W e wt) : QT X W e wt := PW.pt h
theorem qw_and1 (ha : QT X W a wt) : QW X W (.BoolOp .And [a] pos) wt := pw_and1 ha
theorem qw_or1 (ha : QT X W a wt) : QW X W (.BoolOp .Or [a] pos) wt := pw_or1 ha
theorem qw_and (ha : QT X W a wt) (hb : QW X W (.BoolOp .And (b :: es) pos) wt') : QW X W (.BoolOp .And (a :: b :: es) pos) (wAnd wt wt') := PW.imp (pw_and ha hb) fun σ H Q h => by
  obtain ⟨p, σd, l, Qd, Ed, hH, R, hw, k, lk⟩ := h
  subst hH
  refine cT_ok R hw lk fun b l1 p1 e1 R1 q1 => ?_
  cases b with
  | true => exact iteT (cT_ok R1 q1 (lk.mono e1) fun b l2 p2 e2 R2 q2 => k _ l2 p2 (e1.trans e2) R2 q2)
  | false => exact iteF (k _ l1 p1 e1 R1 q1)
theorem qw_or (ha : QT X W a wt) (hb : QW X W (.BoolOp .Or (b :: es) pos) wt') : QW X W (.BoolOp .Or (a :: b :: es) pos) (wOr wt wt') := PW.imp (pw_or ha hb) fun σ H Q h => by
  obtain ⟨p, σd, l, Qd, Ed, hH, R, hw, k, lk⟩ := h
  subst hH
  refine cT_ok R hw lk fun b l1 p1 e1 R1 q1 => ?_
  cases b with
  | true => exact iteT (k _ l1 p1 e1 R1 q1)
  | false => exact iteF (cT_ok R1 q1 (lk.mono e1) fun b l2 p2 e2 R2 q2 => k _ l2 p2 (e1.trans e2) R2 q2)
/-- and, or as values: all but the last give bools -/
def kAndV (wb : WE) (σ : SS) (Q : P → LS → Prop) (E : EK) (b : Bool) (l : LS) : Prop := if b = true then wb σ l Q E else Q (.d (.bl false)) l
def wAndV (wa wb : WE) (σ : SS) (l : LS) (Q : P → LS → Prop) (E : EK) : Prop := wa σ l (kB (kAndV wb σ Q E)) E
def kOrV (wb : WE) (σ : SS) (Q : P → LS → Prop) (E : EK) (b : Bool) (l : LS) : Prop := if b = true then Q (.d (.bl true)) l else wb σ l Q E
def wOrV (wa wb : WE) (σ : SS) (l : LS) (Q : P → LS → Prop) (E : EK) : Prop := wa σ l (kB (kOrV wb σ Q E)) E
def kNotV (Q : P → LS → Prop) (b : Bool) (l : LS) : Prop := Q (.d (.bl (!b))) l
def wNotV (wa : WE) (σ : SS) (l : LS) (Q : P → LS → Prop) (E : EK) : Prop := wa σ l (kB (kNotV Q)) E
theorem qe_one {op : BoolOp} (ha : QE X W a wa) : QE X W (.BoolOp op [a] pos) wa := pe_one ha
theorem qe_and (ha : QE X W a wa) (hb : QE X W (.BoolOp .And (b :: es) pos) wb) : QE X W (.BoolOp .And (a :: b :: es) pos) (wAndV wa wb) := PE.imp (pe_and ha hb) fun σ H Q h => by
  obtain ⟨p, σd, l, Qd, Ed, hH, R, hw, k, lk⟩ := h
  subst hH
  refine cE_ok R hw lk fun x l1 v p1 e1 R1 r1 q1 => ?_
  obtain ⟨b, rfl, q⟩ := isB_ok r1 q1
  refine ⟨b, rfl, ?_⟩
  cases b with
  | true => exact iteT (cE_ok R1 q (lk.mono e1) fun y l2 v2 p2 e2 R2 r2 q2 => k _ l2 v2 p2 (e1.trans e2) R2 r2 q2)
  | false => exact iteF (k (.d (.bl _)) l1 _ p1 e1 R1 (RD.bl _) q)
theorem qe_or (ha : QE X W a wa) (hb : QE X W (.BoolOp .Or (b :: es) pos) wb) : QE X W (.BoolOp .Or (a :: b :: es) pos) (wOrV wa wb) := PE.imp (pe_or ha hb) fun σ H Q h => by
  obtain ⟨p, σd, l, Qd, Ed, hH, R, hw, k, lk⟩ := h
  subst hH
  refine cE_ok R hw lk fun x l1 v p1 e1 R1 r1 q1 => ?_
  obtain ⟨b, rfl, q⟩ := isB_ok r1 q1
  refine ⟨b, rfl, ?_⟩
  cases b with
  | true => exact iteT (k (.d (.bl _)) l1 _ p1 e1 R1 (RD.bl _) q)
  | false => exact iteF (cE_ok R1 q (lk.mono e1) fun y l2 v2 p2 e2 R2 r2 q2 => k _ l2 v2 p2 (e1.trans e2) R2 r2 q2)
theorem qe_not (ha : QE X W a wa) : QE X W (.UnaryOp .Not a pos) (wNotV wa) := PE.imp (pe_not ha) fun σ H Q h => by
  obtain ⟨p, σd, l, Qd, Ed, hH, R, hw, k, lk⟩ := h
  subst hH
  refine cE_ok R hw lk fun x l1 v p1 e1 R1 r1 q1 => ?_
  obtain ⟨b, rfl, q⟩ := isB_ok r1 q1
  exact ⟨b, rfl, k (.d (.bl _)) l1 _ p1 e1 R1 (RD.bl _) q⟩
def kIfE (wa wb : WE) (σ : SS) (Q : P → LS → Prop) (E : EK) (b : Bool) (l : LS) : Prop := if b = true then wa σ l Q E else wb σ l Q E
def wIfE (wt : WT) (wa wb : WE) (σ : SS) (l : LS) (Q : P → LS → Prop) (E : EK) : Prop := wt σ l (kIfE wa wb σ Q E) E
theorem qe_ifE (hc : QT X W c wt) (ha : QE X W a wa) (hb : QE X W b wb) : QE X W (.IfExp c a b pos) (wIfE wt wa wb) := PE.imp (pe_ifExp hc ha hb) fun σ H Q h => by
  obtain ⟨p, σd, l, Qd, Ed, hH, R, hw, k, lk⟩ := h
  subst hH
  refine cT_ok R hw lk fun b l1 p1 e1 R1 q1 => ?_
  cases b with
  | true => exact iteT (cE_ok R1 q1 (lk.mono e1) fun y l2 v2 p2 e2 R2 r2 q2 => k _ l2 v2 p2 (e1.trans e2) R2 r2 q2)
  | false => exact iteF (cE_ok R1 q1 (lk.mono e1) fun y l2 v2 p2 e2 R2 r2 q2 => k _ l2 v2 p2 (e1.trans e2) R2 r2 q2)
/-- a < b < c -/
def kCh3 (rd' : OD2) (wc : WE) (σ : SS) (y : P) (Q : P → LS → Prop) (E : EK) (b : Bool) (l : LS) : Prop := if b = true then wc σ l (kOp2 rd' y Q) E else Q (.d (.bl false)) l
def kCh2 (rd rd' : OD2) (wc : WE) (σ : SS) (x : P) (Q : P → LS → Prop) (E : EK) (y : P) (l : LS) : Prop := rd x y l (kB (kCh3 rd' wc σ y Q E))
def kCh1 (rd rd' : OD2) (wb wc : WE) (σ : SS) (Q : P → LS → Prop) (E : EK) (x : P) (l : LS) : Prop := wb σ l (kCh2 rd rd' wc σ x Q E) E
def wChain (rd rd' : OD2) (wa wb wc : WE) (σ : SS) (l : LS) (Q : P → LS → Prop) (E : EK) : Prop := wa σ l (kCh1 rd rd' wb wc σ Q E) E
theorem chain_ok {r r' : R2} {rd rd' : OD2} (hr : RefOp X.K r rd) (hr' : RefOp X.K r' rd') {σ : St} {H : Hp} {Q : VK} (h : cE X.K W (wChain rd rd' wa wb wc) σ H Q) : tChain r r' (cE X.K W wa) (cE X.K W wb) (cE X.K W wc) σ H Q := by
  obtain ⟨p, σd, l, Qd, Ed, hH, R, hw, k, lk⟩ := h
  subst hH
  refine cE_ok R hw lk fun x l1 vx p1 e1 R1 r1 q1 => cE_ok R1 q1 (lk.mono e1) fun y l2 vy p2 e2 R2 r2 q2 =>
    hr p2 l2 x y vx vy _ _ R2.wf R2.ce (r1.mono e2) r2 q2 fun d l3 v p3 e3 w3 c3 r3 q3 => ?_
  obtain ⟨b, rfl, q⟩ := isB_ok r3 q3
  have R3 := R2.ext e3 w3 c3
  refine ⟨b, rfl, ?_⟩
  cases b with
  | true => exact iteT (cE_ok R3 q (lk.mono ((e1.trans e2).trans e3)) fun z l4 vz p4 e4 R4 r4 q4 =>
      hr' p4 l4 y z vy vz _ _ R4.wf R4.ce (r2.mono (e3.trans e4)) r4 q4 fun d l5 v p5 e5 w5 c5 r5 q5 => k d l5 v p5 ((((e1.trans e2).trans e3).trans e4).trans e5) (R4.ext e5 w5 c5) r5 q5)
  | false => exact iteF (k (.d (.bl _)) l3 _ p3 ((e1.trans e2).trans e3) R3 (RD.bl _) q)
theorem qe_chain {op op' : CmpOp} {r r' : R2} {rd rd' : OD2} (ho : OpR X (compareOp op) r) (hr : RefOp X.K r rd) (ho' : OpR X (compareOp op') r') (hr' : RefOp X.K r' rd') (ha : QE X W a wa) (hb : QE X W b wb) (hc : QE X W c wc)
    (hm : lastMarks [op, op'] [b, c] = false := by with_unfolding_all rfl) : QE X W (.Compare a [op, op'] [b, c] pos) (wChain rd rd' wa wb wc) := PE.imp (pe_chain ho ho' ha hb hc hm) fun _ _ _ h => chain_ok hr hr' h
theorem qt_chain {op op' : CmpOp} {r r' : R2} {rd rd' : OD2} (ho : OpR X (compareOp op) r) (hr : RefOp X.K r rd) (ho' : OpR X (compareOp op') r') (hr' : RefOp X.K r' rd') (ha : QE X W a wa) (hb : QE X W b wb) (hc : QE X W c wc)
    (hm : lastMarks [op, op'] [b, c] = false := by with_unfolding_all rfl) : QT X W (.Compare a [op, op'] [b, c] pos) (wB (wChain rd rd' wa wb wc)) := PT.imp (pt_chain ho ho' ha hb hc hm) fun σ H Q h => by
  obtain ⟨p, σd, l, Qd, Ed, hH, R, hw, k, lk⟩ := h
  subst hH
  exact chain_ok (X := X) (W := W) hr hr' (cE_ok R hw lk fun x l1 v p1 e1 R1 r1 q1 => by
    obtain ⟨b, rfl, q⟩ := isB_ok r1 q1
    exact ⟨b, rfl, k b l1 p1 e1 R1 q⟩)

/-! ### arguments -/
def wNil (_ : SS) (l : LS) (Q : List P → LS → Prop) (_ : EK) : Prop := Q [] l
def kC2 (x : P) (Q : List P → LS → Prop) (xs : List P) (l : LS) : Prop := Q (x :: xs) l
def kC1 (ws : WA) (σ : SS) (Q : List P → LS → Prop) (E : EK) (x : P) (l : LS) : Prop := ws σ l (kC2 x Q) E
def wCons (we : WE) (ws : WA) (σ : SS) (l : LS) (Q : List P → LS → Prop) (E : EK) : Prop := we σ l (kC1 ws σ Q E) E
theorem qa_nil : QA X W [] wNil := PA.imp pa_nil fun σ H Q ⟨p, σd, l, Qd, Ed, hH, R, hw, k, lk⟩ => by
  subst hH
  exact k [] l [] p (Ext.refl p) R .nil hw
theorem qa_cons (ha : QE X W e we) (hr : QA X W es ws) (hs : starEach (e :: es) X.env = (false, eval e X.env) :: starEach es X.env := by rfl) : QA X W (e :: es) (wCons we ws) :=
  PA.imp (pa_cons ha hr hs) fun σ H Q ⟨p, σd, l, Qd, Ed, hH, R, hw, k, lk⟩ => by
    subst hH
    exact cE_ok R hw lk fun x l1 vx p1 e1 R1 r1 q1 => cA_ok R1 q1 (lk.mono e1) fun xs l2 vs p2 e2 R2 r2 q2 => k _ l2 _ p2 (e1.trans e2) R2 (.cons (r1.mono e2) r2) q2
/-- a call of a built-in by name -/
def kCB (rd : ODn) (Q : P → LS → Prop) (xs : List P) (l : LS) : Prop := rd xs l Q
def wCB (rd : ODn) (ws : WA) (σ : SS) (l : LS) (Q : P → LS → Prop) (E : EK) : Prop := ws σ l (kCB rd Q) E
theorem cb_ok {r : List V → Hp → VK → Prop} {rd : ODn} (hr : RefCall X.K r rd) {σ : St} {H : Hp} {Q : VK} (h : cE X.K W (wCB rd ws) σ H Q) : tCB r (cA X.K W ws) σ H Q := by
  obtain ⟨p, σd, l, Qd, Ed, hH, R, hw, k, lk⟩ := h
  subst hH
  exact cA_ok R hw lk fun xs l1 vs p1 e1 R1 r1 q1 => hr p1 l1 xs vs _ _ R1.wf R1.ce r1 q1 fun d l' v p' e' w' c' r' q' => k d l' v p' (e1.trans e') (R1.ext e' w' c') r' q'
theorem qe_callB {x : Str} {q : Pos} {id : String} {r : List V → Hp → VK → Prop} {rd : ODn} (hc : CallR X (.builtin id) r) (hr : RefCall X.K r rd) (hg : Gl X x) (hm : X.mg x = none) (hv : bootBuiltins x = some (.builtin id)) (ha : QA X W (e :: es) ws)
    (hn : x ≠ "__name__" := by decide) (hdb : (x == ("__debug__" : Str)) = false := by decide) (he : starEach (e :: es) X.env = (false, eval e X.env) :: starEach es X.env := by rfl) (hpl : (backTo pos (starEach es X.env)).any (·.1) = false := by rfl) :
    QE X W (.Call (.Name x q) (e :: es) [] pos) (wCB rd ws) := PE.imp (pe_callB hc hg hm hv ha hn hdb he hpl) fun _ _ _ h => cb_ok hr h
theorem qe_callTy {x : Str} {q : Pos} {T : String} {r : List V → Hp → VK → Prop} {rd : ODn} (hc : CallR X (.type T) r) (hr : RefCall X.K r rd) (hg : Gl X x) (hm : X.mg x = none) (hv : bootBuiltins x = some (.type T)) (ha : QA X W (e :: es) ws)
    (hn : x ≠ "__name__" := by decide) (hdb : (x == ("__debug__" : Str)) = false := by decide) (he : starEach (e :: es) X.env = (false, eval e X.env) :: starEach es X.env := by rfl) (hpl : (backTo pos (starEach es X.env)).any (·.1) = false := by rfl) :
    QE X W (.Call (.Name x q) (e :: es) [] pos) (wCB rd ws) := PE.imp (pe_callTy hc hg hm hv ha hn hdb he hpl) fun _ _ _ h => cb_ok hr h
end

/-! ### statements -/
section
variable {X : Cx} {W : WX} {st : Stmt} {rest : List Stmt} {w u : WS} {e : Expr} {we : WE} {wt : WT} {pos : Pos}
def wNext (D : ED) (σ : SS) (l : LS) : Prop := D.nx σ l
def wSeq (w u : WS) (D : ED) (σ : SS) (l : LS) : Prop := w { D with nx := u D } σ l
def exK (D : ED) (σ : SS) (ex : Ex) (l : LS) : Prop := D.ex ex σ l
theorem EndsR.thn {K : PySem.W.Frag} {p : Pt} {D : Ends} {Dd : ED} (k : EndsR K W p D Dd) : EndsR K W p { D with nx := cS K W u D } { Dd with nx := u Dd } :=
  ⟨fun p' σ' σd' l' e R q => cS_ok R q (k.mono e), k.bk, k.ct, k.rt, k.ex⟩
theorem qss_nil : QSs X W [] wNext := PSs.imp pss_nil fun D σ H ⟨p, σd, l, Dd, hH, R, hw, k⟩ => by
  subst hH
  exact k.nx p σ σd l (Ext.refl p) R hw
theorem qss_cons (h1 : QS X W st w) (h2 : QSs X W rest u) : QSs X W (st :: rest) (wSeq w u) := PSs.imp (pss_cons h1 h2) fun D σ H ⟨p, σd, l, Dd, hH, R, hw, k⟩ => by
  subst hH
  exact cS_ok R hw k.thn
theorem qss_one (h1 : QS X W st w) : QSs X W [st] w := pss_one h1
theorem qs_pass : QS X W (.Pass pos) wNext := PS.imp ps_pass fun D σ H ⟨p, σd, l, Dd, hH, R, hw, k⟩ => by
  subst hH
  exact k.nx p σ σd l (Ext.refl p) R hw
def wBreak (D : ED) (σ : SS) (l : LS) : Prop := D.bk σ l
def wCont (D : ED) (σ : SS) (l : LS) : Prop := D.ct σ l
theorem qs_break : QS X W (.Break pos) wBreak := PS.imp ps_break fun D σ H ⟨p, σd, l, Dd, hH, R, hw, k⟩ => by
  subst hH
  exact k.bk p σ σd l (Ext.refl p) R hw
theorem qs_continue : QS X W (.Continue pos) wCont := PS.imp ps_continue fun D σ H ⟨p, σd, l, Dd, hH, R, hw, k⟩ => by
  subst hH
  exact k.ct p σ σd l (Ext.refl p) R hw
theorem qs_doc {x j pos'} : QS X W (.Expr (.Constant (.str x) j pos) pos') wNext := PS.imp ps_doc fun D σ H ⟨p, σd, l, Dd, hH, R, hw, k⟩ => by
  subst hH
  exact k.nx p σ σd l (Ext.refl p) R hw
def kDrop (D : ED) (σ : SS) (_ : P) (l : LS) : Prop := D.nx σ l
def wDrop (we : WE) (D : ED) (σ : SS) (l : LS) : Prop := we σ l (kDrop D σ) (exK D σ)
theorem qs_expr (he : QE X W e we) (hs : swapsWith e none pos.line X.env = pure false := by rfl) : QS X W (.Expr e pos) (wDrop we) := PS.imp (ps_expr he hs) fun D σ H ⟨p, σd, l, Dd, hH, R, hw, k⟩ => by
  subst hH
  exact cE_ok R hw k.link fun x l1 v p1 e1 R1 r1 q1 => k.nx p1 σ σd l1 e1 R1 q1
def wRet (we : WE) (D : ED) (σ : SS) (l : LS) : Prop := we σ l D.rt (exK D σ)
theorem qs_ret (he : QE X W e we) : QS X W (.Return (some e) pos) (wRet we) := PS.imp (ps_ret he) fun D σ H ⟨p, σd, l, Dd, hH, R, hw, k⟩ => by
  subst hH
  exact cE_ok R hw k.link fun x l1 v p1 e1 R1 r1 q1 => k.rt p1 x v l1 e1 R1.wf R1.ce r1 q1
def wRetN (D : ED) (_ : SS) (l : LS) : Prop := D.rt (.d .non) l
theorem qs_retN : QS X W (.Return none pos) wRetN := PS.imp ps_retN fun D σ H ⟨p, σd, l, Dd, hH, R, hw, k⟩ => by
  subst hH
  exact k.rt p (.d .non) _ l (Ext.refl p) R.wf R.ce RD.non hw
def kIf (w u : WS) (D : ED) (σ : SS) (b : Bool) (l : LS) : Prop := if b = true then w D σ l else u D σ l
def wIf (wt : WT) (w u : WS) (D : ED) (σ : SS) (l : LS) : Prop := wt σ l (kIf w u D σ) (exK D σ)
theorem qs_if {c : Expr} {a b : List Stmt} (hc : QT X W c wt) (ha : QSs X W a w) (hb : QSs X W b u) : QS X W (.If c a b pos) (wIf wt w u) := PS.imp (ps_if hc ha hb) fun D σ H ⟨p, σd, l, Dd, hH, R, hw, k⟩ => by
  subst hH
  refine cT_ok R hw k.link fun b l1 p1 e1 R1 q1 => ?_
  cases b with
  | true => exact iteT (cS_ok R1 q1 (k.mono e1))
  | false => exact iteF (cS_ok R1 q1 (k.mono e1))
/-! ### targets -/
def gN (i : Nat) (d : P) (σ : SS) (l : LS) (Q : SS → LS → Prop) : Prop := Q (σ.set i (some d)) l
theorem qg_name {i : Nat} {x : Str} (hN : X.N.Nodup) (hi : X.N[i]? = some x) (hx : Loc X.env.scope x) (hf : X.fn x = true ∨ X.env.scope.names.lookup x = some .local := by first | exact .inl rfl | exact .inr rfl | assumption) : QG X (.Name x pos) (gN i) :=
  PG.imp (pg_name hN hi hx hf) fun v σ H Q ⟨p, σd, l, d, Qd, hH, R, r, hw, k⟩ => by
    subst hH
    exact k p _ _ l (Ext.refl p) (R.set r) hw
def gE (ds : List D) (σ : SS) (l : LS) (Q : SS → LS → Prop) : Prop := match ds with
  | [] => Q σ l
  | _ => False
def kG (gs : WGs) (ds : List D) (Q : SS → LS → Prop) (σ : SS) (l : LS) : Prop := gs ds σ l Q
def gC (g : WG) (gs : WGs) (ds : List D) (σ : SS) (l : LS) (Q : SS → LS → Prop) : Prop := match ds with
  | d :: ds => g (.d d) σ l (kG gs ds Q)
  | [] => False
theorem qgs_nil : QGs X [] gE := PGs.imp pgs_nil fun vs σ H Q ⟨p, σd, l, ds, Qd, hH, R, r, hw, k⟩ => by
  subst hH
  cases r with
  | nil => exact ⟨rfl, k p _ _ l (Ext.refl p) R hw⟩
  | cons _ _ => cases hw
theorem qgs_cons {es : List Expr} {g : WG} {gs : WGs} (h1 : QG X e g) (h2 : QGs X es gs) (hs : (assignEach (e :: es) X.env).map (·.2) = assign e X.env :: (assignEach es X.env).map (·.2) := by rfl) : QGs X (e :: es) (gC g gs) :=
  PGs.imp (pgs_cons h1 h2 hs) fun vs σ H Q ⟨p, σd, l, ds, Qd, hH, R, r, hw, k⟩ => by
    subst hH
    cases r with
    | nil => cases hw
    | cons h r => exact ⟨_, _, rfl, cG_ok R (d := .d _) h hw fun p1 σ1 σd1 l1 e1 R1 q1 => ⟨p1, σd1, l1, _, _, rfl, R1, r.mono e1.hf, q1, fun p2 σ2 σd2 l2 e2 R2 q2 => k p2 σ2 σd2 l2 (e1.trans e2) R2 q2⟩⟩
def gT (n : Nat) (gs : WGs) (d : P) (σ : SS) (l : LS) (Q : SS → LS → Prop) : Prop := match d with
  | .d (.tup ds) => ds.length = n ∧ gs ds σ l Q
  | _ => False
theorem qg_tup {es : List Expr} {k : Nat} {gs : WGs} {n : Nat} (hc : X.calm = true) (h : QGs X es gs) (hn : (assignEach es X.env).length = n := by rfl) (hst : (assignEach es X.env).findIdx? (·.1) = none := by rfl) : QG X (.Tuple es k pos) (gT n gs) :=
  PG.imp (pg_tup hc h hn hst) fun v σ H Q ⟨p, σd, l, d, Qd, hH, R, r, hw, k⟩ => by
    subst hH
    cases d with
    | d d =>
      cases d with
      | tup ds =>
        cases r with
        | tup h1 h2 => exact ⟨_, _, rfl, h1.sq, h2.len.symm.trans hw.1, p, σd, l, ds, Qd, rfl, R, h2, hw.2, k⟩
      | _ => cases hw
    | _ => cases hw
def kAsg (g : WG) (σ : SS) (D : ED) (x : P) (l : LS) : Prop := g x σ l D.nx
def wAsg (we : WE) (g : WG) (D : ED) (σ : SS) (l : LS) : Prop := we σ l (kAsg g σ D) (exK D σ)
theorem asg_ok {g : WG} {D : Ends} {σ : St} {H : Hp} (h : cS X.K W (wAsg we g) D σ H) : tAsg (cE X.K W we) (cG X.K g) D σ H := by
  obtain ⟨p, σd, l, Dd, hH, R, hw, k⟩ := h
  subst hH
  exact cE_ok R hw k.link fun x l1 v p1 e1 R1 r1 q1 => cG_ok R1 r1 q1 fun p2 σ2 σd2 l2 e2 R2 q2 => k.nx p2 σ2 σd2 l2 (e1.trans e2) R2 q2
theorem qs_asg {tg : Expr} {g : WG} (he : QE X W e we) (hg : QG X tg g) (hs : swapsWithSole [tg] e pos.line X.env = pure false := by rfl) (hw : swappedStores [tg] e X.env = pure none := by rfl)
    (h1 : (assignEach [tg] X.env).map (·.2) = [assign tg X.env] := by rfl) : QS X W (.Assign [tg] e pos) (wAsg we g) := PS.imp (ps_asg he hg hs hw h1) fun _ _ _ h => asg_ok h
theorem qs_set {i : Nat} {x : Str} {pos' : Pos} (hN : X.N.Nodup) (hi : X.N[i]? = some x) (hx : Loc X.env.scope x) (he : QE X W e we) (hs : swapsWith e (some (.Name x pos')) pos.line X.env = pure false := by rfl)
    (hf : X.fn x = true ∨ X.env.scope.names.lookup x = some .local := by first | exact .inl rfl | exact .inr rfl | assumption) : QS X W (.Assign [.Name x pos'] e pos) (wAsg we (gN i)) :=
  PS.imp (ps_set hN hi hx he hs hf) fun D σ H h => by
    obtain ⟨p, σd, l, Dd, hH, R, hw, k⟩ := h
    subst hH
    exact cE_ok R hw k.link fun x l1 v p1 e1 R1 r1 q1 => k.nx p1 _ _ l1 e1 (R1.set r1) q1
/-- x op= e of values that are never changed in place -/
def kAug2 (i : Nat) (D : ED) (σ : SS) (z : P) (l : LS) : Prop := D.nx (σ.set i (some z)) l
def kAug1 (i : Nat) (rd : OD2) (D : ED) (σ : SS) (x y : P) (l : LS) : Prop := rd x y l (kAug2 i D σ)
def wAug (i : Nat) (rd : OD2) (we : WE) (D : ED) (σ : SS) (l : LS) : Prop := match σ[i]? with
  | some (some x) => we σ l (kAug1 i rd D σ x) (exK D σ)
  | _ => False
theorem qs_aug {i : Nat} {x : Str} {op : Operator} {ti : TIp} {rd : OD2} {pos' : Pos} (hN : X.N.Nodup) (hi : X.N[i]? = some x) (hx : Loc X.env.scope x) (he : QE X W e we) (ho : PIp X op ti) (hr : RefOp X.K ti rd)
    (hf : X.fn x = true ∨ X.env.scope.names.lookup x = some .local := by first | exact .inl rfl | exact .inr rfl | assumption) : QS X W (.AugAssign (.Name x pos') op e pos) (wAug i rd we) :=
  PS.imp (ps_aug hN hi hx he ho hf) fun D σ H h => by
    obtain ⟨p, σd, l, Dd, hH, R, hw, k⟩ := h
    subst hH
    unfold wAug at hw
    split at hw
    · rename_i d hd
      obtain ⟨v, h1, h2⟩ := R.sl.2 i d hd
      exact ⟨v, h1, cE_ok R hw k.link fun y l1 vy p1 e1 R1 r1 q1 => hr p1 l1 d y v vy _ _ R1.wf R1.ce (h2.mono e1) r1 q1 fun d' l' v' p' e' w' c' r' q' => k.nx p' _ _ l' (e1.trans e') ((R1.ext e' w' c').set r') q'⟩
    · exact hw.elim
end
end QL
set_option Elab.async false
set_option linter.all false
set_option maxRecDepth 100000
set_option maxHeartbeats 4000000
/-! QL3: operators, built-ins, displays, subscripts, methods, over plain data. -/
namespace QL
open PySem L2

section
variable {K : PySem.W.Frag} {p : Pt} {l : LS}
theorem RPs.one {x : P} {vs : List V} (h : RPs K p [x] vs) : ∃ v, vs = [v] ∧ RP K p x v := by
  cases h with
  | cons r t => cases t; exact ⟨_, rfl, r⟩
theorem RPs.two {x y : P} {vs : List V} (h : RPs K p [x, y] vs) : ∃ v w, vs = [v, w] ∧ RP K p x v ∧ RP K p y w := by
  cases h with
  | cons r t =>
    obtain ⟨w, rfl, r2⟩ := RPs.one t
    exact ⟨_, w, rfl, r, r2⟩
/-- a new list, tuple -/
theorem After.newT {Qd : P → LS → Prop} {Q : VK} (k : After K p Qd Q) (w : WF p) (ce : Cells K p l) {xs : List D} {vs : List V} (r : RDs K p xs vs) (q : Qd (.d (.tup xs)) l) : ∀ a, p.H a = none → Q (.ref a) (upd p.H a (.tup vs)) := fun a ha =>
  k _ l _ (p.frz a (.tup vs)) (ext_frz ha) (wf_frz w) (Cells.frz w ce ha) (show RP K (p.frz a (.tup vs)) (.d (.tup xs)) (.ref a) from RD.tup upd_same (r.mono (ext_frz ha).hf)) q
theorem After.newL {Qd : P → LS → Prop} {Q : VK} (k : After K p Qd Q) (w : WF p) (ce : Cells K p l) {xs : List D} {vs : List V} (r : RDs K p xs vs) (q : Qd (.d (.lst xs)) l) : ∀ a, p.H a = none → Q (.ref a) (upd p.H a (.lst vs)) := fun a ha =>
  k _ l _ (p.frz a (.lst vs)) (ext_frz ha) (wf_frz w) (Cells.frz w ce ha) (show RP K (p.frz a (.lst vs)) (.d (.lst xs)) (.ref a) from RD.lst ⟨Or.inr rfl, upd_same⟩ (r.mono (ext_frz ha).hf)) q
/-- a new list that may change -/
theorem After.newC {Qd : P → LS → Prop} {Q : VK} (k : After K p Qd Q) (w : WF p) (ce : Cells K p l) {xs : List D} {vs : List V} (r : RDs K p xs vs) (q : Qd (.loc l.length) (l ++ [.lst xs])) : ∀ a, p.H a = none → Q (.ref a) (upd p.H a (.lst vs)) := fun a ha =>
  k (.loc l.length) (l ++ [.lst xs]) (.ref a) (p.new a (.lst vs)) (ext_new ha) (wf_new w ha) (Cells.new w ce ha (show CellOk K (p.new a (.lst vs)) (.lst xs) a from ⟨fun z => w.nF ha z, vs, upd_same, r.mono (ext_new ha).hf⟩))
    (show RP K (p.new a (.lst vs)) (.loc l.length) (.ref a) from ⟨a, by
      show (p.rho ++ [a])[l.length]? = some a
      rw [ce.1, List.getElem?_append_right (Nat.le_refl _)]
      simp, rfl⟩) q
/-- what becomes of a new list: it stays as it is, or it is a cell -/
inductive Fresh where | frz | cell
def freshL (f : Fresh) (xs : List D) (l : LS) (Q : P → LS → Prop) : Prop := match f with
  | .frz => Q (.d (.lst xs)) l
  | .cell => Q (.loc l.length) (l ++ [.lst xs])
theorem After.fresh {Qd : P → LS → Prop} {Q : VK} (k : After K p Qd Q) (w : WF p) (ce : Cells K p l) {xs : List D} {vs : List V} (r : RDs K p xs vs) (f : Fresh) (q : freshL f xs l Qd) : ∀ a, p.H a = none → Q (.ref a) (upd p.H a (.lst vs)) := by
  cases f with
  | frz => exact k.newL w ce r q
  | cell => exact k.newC w ce r q
/-- ints -/
theorem RDs.ints : ∀ {ns : List Int} {vs : List V}, RDs K p (ns.map .int) vs → vs = ns.map V.int
  | [], _, .nil => rfl
  | n :: ns, _, .cons h r => by
    cases h
    rw [RDs.ints r]
    rfl
theorem RDs.of_ints : ∀ ns : List Int, RDs K p (ns.map .int) (ns.map V.int)
  | [] => .nil
  | n :: ns => .cons (.int n) (RDs.of_ints ns)
theorem RDs.bls : ∀ {ns : List Bool} {vs : List V}, RDs K p (ns.map .bl) vs → vs = ns.map V.bl
  | [], _, .nil => rfl
  | n :: ns, _, .cons h r => by
    cases h
    rw [RDs.bls r]
    rfl
end

/-! ### operators -/
def oII (C : Int → Int → Prop) (g : Int → Int → Int) (x y : P) (l : LS) (Q : P → LS → Prop) : Prop := match x, y with
  | .d (.int i), .d (.int j) => C i j ∧ Q (.d (.int (g i j))) l
  | _, _ => False
def oI0 (g : Int → Int → Int) (x y : P) (l : LS) (Q : P → LS → Prop) : Prop := match x, y with
  | .d (.int i), .d (.int j) => Q (.d (.int (g i j))) l
  | _, _ => False
def oB0 (g : Int → Int → Bool) (x y : P) (l : LS) (Q : P → LS → Prop) : Prop := match x, y with
  | .d (.int i), .d (.int j) => Q (.d (.bl (g i j))) l
  | _, _ => False
section
variable {K : PySem.W.Frag}
theorem ref_II {C : Int → Int → Prop} {g : Int → Int → Int} : RefOp K (rI C fun i j => .int (g i j)) (oII C g) := fun p l x y vx vy Qd Q w ce rx ry h k => by
  unfold oII at h
  split at h
  · cases rx; cases ry
    exact ⟨_, _, rfl, rfl, h.1, k.same w ce (d := .d _) (RD.int _) h.2⟩
  · exact h.elim
theorem ref_I0 {g : Int → Int → Int} : RefOp K (rI0 fun i j => .int (g i j)) (oI0 g) := fun p l x y vx vy Qd Q w ce rx ry h k => by
  unfold oI0 at h
  split at h
  · cases rx; cases ry
    exact ⟨_, _, rfl, rfl, k.same w ce (d := .d _) (RD.int _) h⟩
  · exact h.elim
theorem ref_B0 {g : Int → Int → Bool} : RefOp K (rI0 fun i j => .bl (g i j)) (oB0 g) := fun p l x y vx vy Qd Q w ce rx ry h k => by
  unfold oB0 at h
  split at h
  · cases rx; cases ry
    exact ⟨_, _, rfl, rfl, k.same w ce (d := .d _) (RD.bl _) h⟩
  · exact h.elim
theorem ref_ip {g : Int → Int → Int} : RefOp K (ipI g) (oI0 g) := fun p l x y vx vy Qd Q w ce rx ry h k => by
  unfold oI0 at h
  split at h
  · cases rx; cases ry
    exact ⟨_, _, rfl, rfl, k.same w ce (d := .d _) (RD.int _) h⟩
  · exact h.elim
def oU (g : Int → Int) (x : P) (l : LS) (Q : P → LS → Prop) : Prop := match x with
  | .d (.int i) => Q (.d (.int (g i))) l
  | _ => False
theorem ref_U {g : Int → Int} : RefUn K (rU fun i => .int (g i)) (oU g) := fun p l x vx Qd Q w ce rx h k => by
  unfold oU at h
  split at h
  · cases rx
    exact ⟨_, rfl, k.same w ce (d := .d _) (RD.int _) h⟩
  · exact h.elim
/-- is None -/
def isNon : P → Bool
  | .d .non => true
  | _ => false
theorem isNon_ok {p : Pt} {x : P} {v : V} (r : RP K p x v) : decide (v = .non) = isNon x := by
  cases x with
  | d x => cases x <;> cases r <;> simp [isNon]
  | loc _ => obtain ⟨a, _, rfl⟩ := r; simp [isNon]
  | exc _ _ _ _ => obtain ⟨rfl, _⟩ := r; simp [isNon]
def oIs (neg : Bool) (x y : P) (l : LS) (Q : P → LS → Prop) : Prop := match y with
  | .d .non => Q (.d (.bl (if neg then !isNon x else isNon x))) l
  | _ => False
theorem ref_isN : RefOp K (fun x y H Q => y = .non ∧ Q (.bl (decide (x = .non))) H) (oIs false) := fun p l x y vx vy Qd Q w ce rx ry h k => by
  unfold oIs at h
  split at h
  · cases ry
    exact ⟨rfl, k.same w ce (d := .d _) (by rw [isNon_ok rx]; exact RD.bl _) h⟩
  · exact h.elim
theorem ref_notN : RefOp K (fun x y H Q => y = .non ∧ Q (.bl (!decide (x = .non))) H) (oIs true) := fun p l x y vx vy Qd Q w ce rx ry h k => by
  unfold oIs at h
  split at h
  · cases ry
    exact ⟨rfl, k.same w ce (d := .d _) (by rw [isNon_ok rx]; exact RD.bl _) h⟩
  · exact h.elim

/-! ### == of data -/
mutual
def D.py : D → PyData
  | .non => .none
  | .bl b => .bool b
  | .int i => .int i
  | .str x => .str x
  | .tup xs => .tuple (D.pys xs)
  | .lst xs => .list (D.pys xs)
  | .scr xs => .list (D.pys xs)
  | .ty _ => .none
  | .ktu xs => .tuple (D.pys xs)
  | .tux xs => .tuple (D.pys xs)
  | .dk _ _ => .none
  | .dt _ _ => .none
  | .obj _ _ _ => .none
def D.pys : List D → List PyData
  | [] => []
  | x :: xs => x.py :: D.pys xs
end
/-- data no deeper than n -/
def dOk : Nat → D → Prop
  | _, .non => True
  | _, .bl _ => True
  | _, .int _ => True
  | _, .str x => PyData.strOk x = true
  | n + 1, .tup xs => ∀ x ∈ xs, dOk n x
  | n + 1, .lst xs => ∀ x ∈ xs, dOk n x
  | n + 1, .ktu xs => ∀ x ∈ xs, dOk n x
  | n + 1, .tux xs => ∀ x ∈ xs, dOk n x
  | _, _ => False
def D.eqv (a b : D) : Bool := PyData.eqv a.py b.py
theorem dOk_tup {n : Nat} {xs : List D} : dOk (n + 1) (.tup xs) ↔ ∀ x ∈ xs, dOk n x := by simp only [dOk]
theorem dOk_lst {n : Nat} {xs : List D} : dOk (n + 1) (.lst xs) ↔ ∀ x ∈ xs, dOk n x := by simp only [dOk]
mutual
theorem dOk_sh : ∀ (x : D) (n : Nat), dOk n x → x.py.canLay0 = true ∧ x.py.depth ≤ n
  | .non, n, _ => by simp [D.py, PyData.canLay0, PyData.depth]
  | .bl _, n, _ => by simp [D.py, PyData.canLay0, PyData.depth]
  | .int _, n, _ => by simp [D.py, PyData.canLay0, PyData.depth]
  | .str x, n, h => by
    have h' : PyData.strOk x = true := by cases n <;> exact h
    simp [D.py, PyData.canLay0, PyData.depth, h']
  | .ty _, n, h => by cases n <;> exact h.elim
  | .scr _, n, h => by cases n <;> exact h.elim
  | .obj _ _ _, n, h => by cases n <;> exact h.elim
  | .dk _ _, n, h => by cases n <;> exact h.elim
  | .dt _ _, n, h => by cases n <;> exact h.elim
  | .ktu xs, 0, h => h.elim
  | .ktu xs, n + 1, h => by
    have q := dOks_sh xs n h
    simp only [D.py, PyData.canLay0, PyData.depth]
    exact ⟨q.1, by omega⟩
  | .tux xs, 0, h => h.elim
  | .tux xs, n + 1, h => by
    have q := dOks_sh xs n h
    simp only [D.py, PyData.canLay0, PyData.depth]
    exact ⟨q.1, by omega⟩
  | .tup xs, 0, h => h.elim
  | .lst xs, 0, h => h.elim
  | .tup xs, n + 1, h => by
    have q := dOks_sh xs n h
    simp only [D.py, PyData.canLay0, PyData.depth]
    exact ⟨q.1, by omega⟩
  | .lst xs, n + 1, h => by
    have q := dOks_sh xs n h
    simp only [D.py, PyData.canLay0, PyData.depth]
    exact ⟨q.1, by omega⟩
theorem dOks_sh : ∀ (xs : List D) (n : Nat), (∀ x ∈ xs, dOk n x) → PyData.canLayAll0 (D.pys xs) = true ∧ PyData.depthAll (D.pys xs) ≤ n
  | [], n, _ => by simp [D.pys, PyData.canLayAll0, PyData.depthAll]
  | x :: xs, n, h => by
    have h1 := dOk_sh x n (h x List.mem_cons_self)
    have h2 := dOks_sh xs n fun y hy => h y (List.mem_cons_of_mem _ hy)
    simp only [D.pys, PyData.canLayAll0, PyData.depthAll, h1.1, h2.1, Bool.and_self, true_and]
    omega
end
theorem dOk_shaped {x : D} {n : Nat} (h : dOk n x) (hn : n ≤ 64 := by decide) : SeqAt.shaped x.py = true := by
  obtain ⟨h1, h2⟩ := dOk_sh x n h
  simp only [SeqAt.shaped, h1, Bool.true_and, decide_eq_true_eq]
  omega
mutual
theorem RD.dp {p : Pt} : ∀ {x : D} {v : V} {n : Nat}, RD K p x v → dOk n x → Dp K p.H v x.py
  | _, _, _, .non, _ => .non
  | _, _, _, .bl b, _ => .bl b
  | _, _, _, .int i, _ => .int i
  | _, _, _, .str x, _ => .str x
  | _, _, n, .ty _, h => by cases n <;> exact h.elim
  | _, _, n, .scr _ _, h => by cases n <;> exact h.elim
  | _, _, n, .obj _ _ _, h => by cases n <;> exact h.elim
  | _, _, n, .dk _ _ _ _, h => by cases n <;> exact h.elim
  | _, _, n, .dt _ _ _ _, h => by cases n <;> exact h.elim
  | _, _, 0, .ktu _ _, h => h.elim
  | _, _, n + 1, .ktu h1 h2, h => .tup (seqT_empty h1) (RDs.dp h2 h)
  | _, _, 0, .tux _ _ _ _, h => h.elim
  | _, _, n + 1, .tux _ h1 _ h2, h => .tup (.inl (.inr ⟨_, h1⟩)) (RDs.dp h2 h)
  | _, _, 0, .tup _ _, h => h.elim
  | _, _, 0, .lst _ _, h => h.elim
  | _, _, n + 1, .tup h1 h2, h => .tup h1.sq (RDs.dp h2 h)
  | _, _, n + 1, .lst h1 h2, h => .lst (LstAt.sq (K := K) h1) (RDs.dp h2 h)
theorem RDs.dp {p : Pt} : ∀ {xs : List D} {vs : List V} {n : Nat}, RDs K p xs vs → (∀ x ∈ xs, dOk n x) → DpAll K p.H vs (D.pys xs)
  | _, _, _, .nil, _ => .nil
  | _, _, _, .cons h1 h2, h => .cons (RD.dp h1 (h _ List.mem_cons_self)) (RDs.dp h2 fun y hy => h y (List.mem_cons_of_mem _ hy))
end
/-- a value as data -/
def snap (l : LS) : P → Option D
  | .d x => some x
  | .loc n => match l[n]? with
    | some (.lst xs) => some (.lst xs)
    | some (.frz xs) => some (.lst xs)
    | some (.own _ xs) => some (.lst xs)
    | _ => none
  | _ => none
theorem snap_ok {p : Pt} {l : LS} {x : P} {v : V} {d : D} {n : Nat} (ce : Cells K p l) (r : RP K p x v) (h : snap l x = some d) (o : dOk n d) : Dp K p.H v d.py := by
  cases x with
  | d x =>
    cases h
    exact RD.dp r o
  | loc m =>
    obtain ⟨a, h1, rfl⟩ := r
    cases e : l[m]? with
    | none => simp [snap, e] at h
    | some c =>
      obtain ⟨b, h2, h3⟩ := ce.2 m c e
      rw [h1] at h2
      cases h2
      cases c with
      | lst ys =>
        simp [snap, e] at h
        subst h
        obtain ⟨_, vs, h4, h5⟩ := h3
        cases n with
        | zero => exact o.elim
        | succ n => exact .lst (.inl (.inl h4)) (RDs.dp h5 o)
      | frz ys =>
        simp [snap, e] at h
        subst h
        obtain ⟨vs, h4, h5⟩ := h3
        cases n with
        | zero => exact o.elim
        | succ n => exact .lst (LstAt.sq (K := K) h4) (RDs.dp h5 o)
      | dk _ => simp [snap, e] at h
      | dt _ => simp [snap, e] at h
      | fz _ => simp [snap, e] at h
      | own _ ys =>
        simp [snap, e] at h
        subst h
        obtain ⟨_, _, vs, h4, h5⟩ := h3
        cases n with
        | zero => exact o.elim
        | succ n => exact .lst (.inl (.inl h4)) (RDs.dp h5 o)
      | dkc _ => simp [snap, e] at h
      | dtc _ => simp [snap, e] at h
      | lsc _ => simp [snap, e] at h
      | ins _ _ _ => simp [snap, e] at h
  | exc _ _ _ _ => cases h
def oEq (neg : Bool) (x y : P) (l : LS) (Q : P → LS → Prop) : Prop := match snap l x, snap l y with
  | some a, some b => dOk 60 a ∧ dOk 60 b ∧ Q (.d (.bl (if neg then !D.eqv a b else D.eqv a b))) l
  | _, _ => False
theorem ref_eq : RefOp K (rEqD K) (oEq false) := fun p l x y vx vy Qd Q w ce rx ry h k => by
  unfold oEq at h
  split at h
  · rename_i a b ha hb
    exact ⟨_, _, snap_ok ce rx ha h.1, snap_ok ce ry hb h.2.1, dOk_shaped h.1, dOk_shaped h.2.1, k.same w ce (d := .d _) (RD.bl _) h.2.2⟩
  · exact h.elim
theorem ref_ne : RefOp K (rNeD K) (oEq true) := fun p l x y vx vy Qd Q w ce rx ry h k => by
  unfold oEq at h
  split at h
  · rename_i a b ha hb
    exact ⟨_, _, snap_ok ce rx ha h.1, snap_ok ce ry hb h.2.1, dOk_shaped h.1, dOk_shaped h.2.1, k.same w ce (d := .d _) (RD.bl _) h.2.2⟩
  · exact h.elim
/-! what eqv says -/
/-- no True, no False -/
def noB : D → Prop
  | .bl _ => False
  | .tup xs => ∀ x ∈ xs, noB x
  | .lst xs => ∀ x ∈ xs, noB x
  | .scr _ => False
  | .ty _ => False
  | .obj _ _ _ => False
  | .ktu _ => False
  | .tux _ => False
  | .dk _ _ => False
  | .dt _ _ => False
  | _ => True
mutual
theorem eqv_of : ∀ (a b : D), noB a → noB b → (PyData.eqv a.py b.py = true ↔ a = b)
  | .non, b, _, hb => by cases b <;> simp_all [D.py, PyData.eqv, noB]
  | .int i, b, _, hb => by cases b <;> simp_all [D.py, PyData.eqv, noB]
  | .str i, b, _, hb => by cases b <;> simp_all [D.py, PyData.eqv, noB]
  | .tup xs, b, ha, hb => by
    cases b with
    | tup ys =>
      simp only [noB] at ha hb
      simp only [D.py, PyData.eqv, D.tup.injEq]
      exact eqvs_of xs ys ha hb
    | _ => simp_all [D.py, PyData.eqv, noB]
  | .lst xs, b, ha, hb => by
    cases b with
    | lst ys =>
      simp only [noB] at ha hb
      simp only [D.py, PyData.eqv, D.lst.injEq]
      exact eqvs_of xs ys ha hb
    | _ => simp_all [D.py, PyData.eqv, noB]
  | .bl _, _, ha, _ => by simp [noB] at ha
  | .scr _, _, ha, _ => by simp [noB] at ha
  | .ty _, _, ha, _ => by simp [noB] at ha
  | .obj _ _ _, _, ha, _ => by simp [noB] at ha
  | .ktu _, _, ha, _ => by simp [noB] at ha
  | .tux _, _, ha, _ => by simp [noB] at ha
  | .dk _ _, _, ha, _ => by simp [noB] at ha
  | .dt _ _, _, ha, _ => by simp [noB] at ha
theorem eqvs_of : ∀ (as bs : List D), (∀ x ∈ as, noB x) → (∀ x ∈ bs, noB x) → (PyData.eqvAll (D.pys as) (D.pys bs) = true ↔ as = bs)
  | [], [], _, _ => by simp [D.pys, PyData.eqvAll]
  | [], _ :: _, _, _ => by simp [D.pys, PyData.eqvAll]
  | _ :: _, [], _, _ => by simp [D.pys, PyData.eqvAll]
  | a :: as, b :: bs, ha, hb => by
    simp only [D.pys, PyData.eqvAll, Bool.and_eq_true, List.cons.injEq]
    rw [eqv_of a b (ha a List.mem_cons_self) (hb b List.mem_cons_self), eqvs_of as bs (fun x hx => ha x (List.mem_cons_of_mem _ hx)) (fun x hx => hb x (List.mem_cons_of_mem _ hx))]
end
theorem D.eqv_iff {a b : D} (ha : noB a) (hb : noB b) : D.eqv a b = true ↔ a = b := eqv_of a b ha hb
theorem D.eqv_self {a : D} (ha : noB a) : D.eqv a a = true := (eqv_of a a ha ha).mpr rfl
@[simp] theorem D.eqv_int (i j : Int) : D.eqv (.int i) (.int j) = decide (i = j) := by
  by_cases h : i = j <;> simp [D.eqv, D.py, PyData.eqv, h]
@[simp] theorem D.eqv_bl (i j : Bool) : D.eqv (.bl i) (.bl j) = (i == j) := by simp [D.eqv, D.py, PyData.eqv]
@[simp] theorem D.eqv_str (i j : Str) : D.eqv (.str i) (.str j) = (i == j) := by simp [D.eqv, D.py, PyData.eqv]
@[simp] theorem D.eqv_non : D.eqv .non .non = true := by simp [D.eqv, D.py, PyData.eqv]
end
end QL
set_option Elab.async false
set_option linter.all false
set_option maxRecDepth 100000
set_option maxHeartbeats 4000000
/-! QL4: sequences, built-ins, methods. -/
namespace QL
open PySem L2

section
variable {K : PySem.W.Frag} {p : Pt} {l : LS}
/-! ### in, not in: flat things -/
def flatD : D → Bool
  | .non => true
  | .bl _ => true
  | .int _ => true
  | .str _ => true
  | _ => false
theorem flat_ok {x : D} {v : V} (r : RD K p x v) (f : flatD x = true) : flatV v = true ∧ ∀ y u, RD K p y u → flatD y = true → eqV u v = D.eqv y x := by
  cases r with
  | non => exact ⟨rfl, fun y u r f => by cases r <;> simp_all [eqV, D.eqv, D.py, PyData.eqv, flatD]⟩
  | bl b => exact ⟨rfl, fun y u r f => by cases r <;> simp_all [eqV, D.eqv, D.py, PyData.eqv, flatD]⟩
  | int i => exact ⟨rfl, fun y u r f => by cases r <;> simp_all [eqV, D.eqv, D.py, PyData.eqv, flatD]⟩
  | str i => exact ⟨rfl, fun y u r f => by cases r <;> simp_all [eqV, D.eqv, D.py, PyData.eqv, flatD]⟩
  | ty _ => cases f
  | tup _ _ => cases f
  | lst _ _ => cases f
  | scr _ _ => cases f
  | ktu _ _ => cases f
  | tux _ _ _ _ => cases f
  | dk _ _ _ _ => cases f
  | dt _ _ _ _ => cases f
  | obj _ _ _ => cases f
theorem flats_ok {x : D} {v : V} (r : RD K p x v) (f : flatD x = true) : ∀ {ys : List D} {vs : List V}, RDs K p ys vs → ys.all flatD = true → vs.all flatV = true ∧ inV v vs = ys.any fun y => D.eqv y x
  | _, _, .nil, _ => ⟨rfl, rfl⟩
  | y :: ys, u :: us, .cons h t, g => by
    simp only [List.all_cons, Bool.and_eq_true] at g
    have ih := flats_ok r f t g.2
    have h1 := (flat_ok r f).2 y u h g.1
    refine ⟨by simp [(flat_ok h g.1).1, ih.1], ?_⟩
    have ih2 := ih.2
    unfold inV at ih2 ⊢
    rw [List.any_cons, List.any_cons, h1, ih2]
def oIn (neg : Bool) (x y : P) (l : LS) (Q : P → LS → Prop) : Prop := match x, seqOf l y with
  | .d a, some ys => flatD a = true ∧ ys.all flatD = true ∧ Q (.d (.bl (if neg then !(ys.any fun z => D.eqv z a) else ys.any fun z => D.eqv z a))) l
  | _, _ => False
theorem ref_in {neg : Bool} : RefOp K (rIn K neg) (oIn neg) := fun p l x y vx vy Qd Q w ce rx ry h k => by
  unfold oIn at h
  split at h
  · rename_i a ys hy
    obtain ⟨b, vs, rfl, hs, hr⟩ := seqOf_ok ce ry hy
    have hh := flats_ok (p := p) rx h.1 hr h.2.1
    refine ⟨b, vs, rfl, hs, (flat_ok (p := p) rx h.1).1, hh.1, ?_⟩
    rw [hh.2]
    exact k.same w ce (d := .d _) (RD.bl _) h.2.2
  · exact h.elim

/-! ### joining -/
def oCat (f : Fresh) (x y : P) (l : LS) (Q : P → LS → Prop) : Prop := match lstOf l x, lstOf l y with
  | some a, some b => a.length + b.length ≤ sizeLine ∧ freshL f (a ++ b) l Q
  | _, _ => False
theorem ref_cat {f : Fresh} : RefOp K rCat (oCat f) := fun p l x y vx vy Qd Q w ce rx ry h k => by
  unfold oCat at h
  split at h
  · rename_i xs ys hx hy
    obtain ⟨a, vs, rfl, ha, ra⟩ := lstOf_ok ce rx hx
    obtain ⟨b, ws, rfl, hb, rb⟩ := lstOf_ok ce ry hy
    refine ⟨a, b, vs, ws, rfl, rfl, ha, hb, by rw [← ra.len, ← rb.len]; exact h.1, k.fresh w ce (ra.append rb) f h.2⟩
  · exact h.elim
def oCatT (x y : P) (l : LS) (Q : P → LS → Prop) : Prop := match x, y with
  | .d (.tup a), .d (.tup b) => a.length + b.length ≤ sizeLine ∧ Q (.d (.tup (a ++ b))) l
  | _, _ => False
theorem ref_catT : RefOp K (rCatA K) oCatT := fun p l x y vx vy Qd Q w ce rx ry h k => by
  unfold oCatT at h
  split at h
  · rename_i xs ys
    cases rx with
    | tup h1 r1 =>
      cases ry with
      | tup h2 r2 =>
        refine ⟨_, _, _, _, rfl, rfl, h1.sq, h2.sq, by rw [← r1.len, ← r2.len]; exact h.1, fun e => ?_, fun _ e => ?_, fun _ _ => k.newT w ce (r1.append r2) h.2⟩
        · subst e
          cases r1
          exact k.same w ce (d := .d _) (RD.tup h2 r2) h.2
        · subst e
          cases r2
          have q := h.2
          rw [List.append_nil] at q
          exact k.same w ce (d := .d _) (RD.tup h1 r1) q
  · exact h.elim
def oCatS (x y : P) (l : LS) (Q : P → LS → Prop) : Prop := match x, y with
  | .d (.str a), .d (.str b) => a.length + b.length ≤ sizeLine ∧ Q (.d (.str (a ++ b))) l
  | _, _ => False
theorem ref_catS : RefOp K (fun x y H Q => ∃ i j, x = .str i ∧ y = .str j ∧ i.length + j.length ≤ sizeLine ∧ Q (.str (i ++ j)) H) oCatS := fun p l x y vx vy Qd Q w ce rx ry h k => by
  unfold oCatS at h
  split at h
  · cases rx; cases ry
    exact ⟨_, _, rfl, rfl, h.1, k.same w ce (d := .d _) (RD.str _) h.2⟩
  · exact h.elim
/-! ### subscripts -/
theorem RDs.atI {xs : List D} {vs : List V} {i : Int} {x : D} (r : RDs K p xs vs) (e : atI xs i = some x) : ∃ v, atI vs i = some v ∧ RD K p x v := by
  unfold L2.atI at e ⊢
  rw [← r.len]
  cases q : ixN xs.length i with
  | none => rw [q] at e; cases e
  | some j =>
    rw [q] at e
    exact r.get e
def oIx (x y : P) (l : LS) (Q : P → LS → Prop) : Prop := match y with
  | .d (.int i) => match seqOf l x with
    | some xs => ∃ v, atI xs i = some v ∧ Q (.d v) l
    | none => match x with
      | .d (.str z) => z.length ≤ sizeLine ∧ ∃ c, atI z.cps.toList i = some c ∧ Q (.d (.str ⟨#[c]⟩)) l
      | _ => False
  | _ => False
theorem ref_ix : RefOp K (rIx K) oIx := fun p l x y vx vy Qd Q w ce rx ry h k => by
  unfold oIx at h
  split at h
  · rename_i i
    cases ry
    split at h
    · rename_i xs hx
      obtain ⟨a, vs, rfl, hs, hr⟩ := seqOf_ok ce rx hx
      obtain ⟨d, h1, h2⟩ := h
      obtain ⟨v, h3, h4⟩ := hr.atI h1
      have q := k.same w ce (d := .d d) h4 h2
      rcases hs with hs | hs
      · exact .inl ⟨a, vs, i, v, rfl, rfl, hs, h3, q⟩
      · exact .inr (.inl ⟨a, vs, i, v, rfl, rfl, hs, h3, q⟩)
    · split at h
      · cases rx
        obtain ⟨hz, c, h1, h2⟩ := h
        exact .inr (.inr ⟨_, i, c, rfl, rfl, hz, h1, k.same w ce (d := .d _) (RD.str _) h2⟩)
      · exact h.elim
  · exact h.elim
end
section
variable {X : Cx} {W : WX} {a b e o : Expr} {es : List Expr} {wa wb we wo : WE} {ws : WA} {pos : Pos}
theorem qe_ix (ha : QE X W a wa) (hb : QE X W b wb) (hs : PlainIx b) : QE X W (.Subscript a b pos) (wOp oIx wa wb) := PE.imp (pe_ix ix_seq ha hb hs) fun _ _ _ h => op_ok ref_ix h
/-! ### slices -/
abbrev WO := SS → LS → (Option Int → LS → Prop) → EK → Prop
def cO (K : PySem.W.Frag) (W : WX) (w : WO) : TO := fun σ H Q => ∃ (p : Pt) (σd : SS) (l : LS) (Qd : Option Int → LS → Prop) (Ed : EK), p.H = H ∧ Rel K p σ σd l ∧ w σd l Qd Ed ∧
  (∀ b l' p', Ext p p' → Rel K p' σ σd l' → Qd b l' → Q b p'.H) ∧ LinkE K W p σ σd Ed
def QO (X : Cx) (W : WX) (e : Option Expr) (w : WO) : Prop := PO X e (cO X.K W w)
theorem PO.imp {X : Cx} {e : Option Expr} {t t' : TO} (h : PO X e t) (k : ∀ σ H Q, t' σ H Q → t σ H Q) : PO X e t' := ⟨fun pins s σ H Q I q => h.run pins s σ H Q I (k σ H Q q)⟩
theorem cO_ok {K : PySem.W.Frag} {p : Pt} {σ : St} {σd : SS} {l : LS} {w : WO} {Q : Option Int → Hp → Prop} {Qd : Option Int → LS → Prop} {Ed : EK} (R : Rel K p σ σd l) (hw : w σd l Qd Ed) (lk : LinkE K W p σ σd Ed)
    (k : ∀ b l' p', Ext p p' → Rel K p' σ σd l' → Qd b l' → Q b p'.H) : cO K W w σ p.H Q := ⟨p, σd, l, Qd, Ed, rfl, R, hw, k, lk⟩
def wNoPart (_ : SS) (l : LS) (Q : Option Int → LS → Prop) (_ : EK) : Prop := Q none l
def kPart (Q : Option Int → LS → Prop) (x : P) (l : LS) : Prop := match x with
  | .d (.int i) => Q (some i) l
  | _ => False
def wPart (we : WE) (σ : SS) (l : LS) (Q : Option Int → LS → Prop) (E : EK) : Prop := we σ l (kPart Q) E
theorem qo_none : QO X W none wNoPart := PO.imp po_none fun σ H Q ⟨p, σd, l, Qd, Ed, hH, R, hw, k, lk⟩ => by
  subst hH
  exact k none l p (Ext.refl p) R hw
theorem qo_some (h : QE X W e we) : QO X W (some e) (wPart we) := PO.imp (po_some h) fun σ H Q ⟨p, σd, l, Qd, Ed, hH, R, hw, k, lk⟩ => by
  subst hH
  refine cE_ok R hw lk fun x l1 v p1 e1 R1 r1 q1 => ?_
  unfold kPart at q1
  split at q1
  · cases r1
    exact ⟨_, rfl, k _ l1 p1 e1 R1 q1⟩
  · exact q1.elim
def cutD {α : Type} (xs : List α) (lo hi : Option Int) : List α := (xs.drop (HT.sIx xs.length 0 lo)).take (HT.sIx xs.length xs.length hi - HT.sIx xs.length 0 lo)
theorem RDs.cut {K : PySem.W.Frag} {p : Pt} {xs : List D} {vs : List V} (r : RDs K p xs vs) (lo hi : Option Int) : RDs K p (cutD xs lo hi) (cutV vs lo hi) := by
  unfold cutD cutV
  rw [r.len]
  exact (r.drop _).take _
abbrev ODs := P → Option Int → Option Int → LS → (P → LS → Prop) → Prop
def RefSl (K : PySem.W.Frag) (r : V → Option Int → Option Int → Hp → VK → Prop) (rd : ODs) : Prop := ∀ (p : Pt) (l : LS) (x : P) (vx : V) (lo hi : Option Int) (Qd : P → LS → Prop) (Q : VK), WF p → Cells K p l → RP K p x vx → rd x lo hi l Qd → After K p Qd Q → r vx lo hi p.H Q
def kSl3 (rd : ODs) (x : P) (i : Option Int) (Q : P → LS → Prop) (j : Option Int) (l : LS) : Prop := rd x i j l Q
def kSl2 (rd : ODs) (wh : WO) (σ : SS) (x : P) (Q : P → LS → Prop) (E : EK) (i : Option Int) (l : LS) : Prop := wh σ l (kSl3 rd x i Q) E
def kSl1 (rd : ODs) (wl wh : WO) (σ : SS) (Q : P → LS → Prop) (E : EK) (x : P) (l : LS) : Prop := wl σ l (kSl2 rd wh σ x Q E) E
def wSl (rd : ODs) (we : WE) (wl wh : WO) (σ : SS) (l : LS) (Q : P → LS → Prop) (E : EK) : Prop := we σ l (kSl1 rd wl wh σ Q E) E
theorem qe_sl {r : V → Option Int → Option Int → Hp → VK → Prop} {rd : ODs} {lo hi : Option Expr} {wl wh : WO} {p2 : Pos} (hr : SlR X r) (rr : RefSl X.K r rd) (he : QE X W e we) (hl : QO X W lo wl) (hu : QO X W hi wh) : QE X W (.Subscript e (.Slice lo hi none p2) pos) (wSl rd we wl wh) :=
  PE.imp (pe_slice hr he hl hu) fun σ H Q ⟨p, σd, l, Qd, Ed, hH, R, hw, k, lk⟩ => by
    subst hH
    exact cE_ok R hw lk fun x l1 v p1 e1 R1 r1 q1 => cO_ok R1 q1 (lk.mono e1) fun i l2 p2 e2 R2 q2 => cO_ok R2 q2 (lk.mono (e1.trans e2)) fun j l3 p3 e3 R3 q3 =>
      rr p3 l3 x v i j _ _ R3.wf R3.ce (r1.mono (e2.trans e3)) q3 fun d l' v' p' e' w' c' r' q' => k d l' v' p' (((e1.trans e2).trans e3).trans e') (R3.ext e' w' c') r' q'
def oSlL (f : Fresh) (x : P) (lo hi : Option Int) (l : LS) (Q : P → LS → Prop) : Prop := match x with
  | .d (.tup _) => False
  | .d (.ktu _) => False
  | .d (.tux _) => False
  | _ => match seqOf l x with
    | some xs => freshL f (cutD xs lo hi) l Q
    | none => False
theorem ref_slL {K : PySem.W.Frag} {f : Fresh} : RefSl K (rSlL K) (oSlL f) := fun p l x vx lo hi Qd Q w ce rx h k => by
  unfold oSlL at h
  split at h
  · exact h.elim
  · exact h.elim
  · exact h.elim
  · rename_i nt nt2 nt3
    split at h
    · rename_i xs hx
      cases x with
      | d x =>
        cases x with
        | tup _ => exact absurd rfl (nt _)
        | ktu _ => exact absurd rfl (nt2 _)
        | tux _ => exact absurd rfl (nt3 _)
        | lst ys =>
          cases hx
          cases rx with
          | lst h1 h2 => exact ⟨_, _, rfl, LstAt.sq (K := K) h1, k.fresh w ce (h2.cut lo hi) f h⟩
        | scr ys =>
          cases hx
          cases rx with
          | scr h1 h2 => exact ⟨_, _, rfl, h1.sq, k.fresh w ce (h2.cut lo hi) f h⟩
        | _ => cases hx
      | loc n =>
        obtain ⟨a, vs, rfl, h1, h2⟩ := lstOf_ok ce rx (show lstOf l (.loc n) = some xs from hx)
        exact ⟨_, _, rfl, .inl (.inl h1), k.fresh w ce (h2.cut lo hi) f h⟩
      | exc _ _ _ _ => cases hx
    · exact h.elim
def oSlT (x : P) (lo hi : Option Int) (l : LS) (Q : P → LS → Prop) : Prop := match x with
  | .d (.tup xs) => Q (.d (.tup (cutD xs lo hi))) l
  | _ => False
theorem ref_slT {K : PySem.W.Frag} : RefSl K (rSlA K) oSlT := fun p l x vx lo hi Qd Q w ce rx h k => by
  unfold oSlT at h
  split at h
  · rename_i xs
    cases rx with
    | tup h1 r1 =>
      refine ⟨_, _, rfl, h1.sq, fun e => ?_, fun _ => k.newT w ce (r1.cut lo hi) h⟩
      have e1 : cutD xs lo hi = xs := by
        unfold cutD
        rw [r1.len, e.1, e.2]
        simp [← r1.len]
      rw [e1] at h
      exact k.same w ce (d := .d _) (RD.tup h1 r1) h
  · exact h.elim
def oSlS (x : P) (lo hi : Option Int) (l : LS) (Q : P → LS → Prop) : Prop := match x with
  | .d (.str z) => z.length ≤ sizeLine ∧ Q (.d (.str (cutS z lo hi))) l
  | _ => False
theorem ref_slS {K : PySem.W.Frag} : RefSl K rSlS oSlS := fun p l x vx lo hi Qd Q w ce rx h k => by
  unfold oSlS at h
  split at h
  · cases rx
    exact ⟨_, rfl, h.1, k.same w ce (d := .d _) (RD.str _) h.2⟩
  · exact h.elim
/-! ### displays -/
def asDs : List P → Option (List D)
  | [] => some []
  | .d x :: r => (asDs r).map (x :: ·)
  | _ :: _ => none
theorem asDs_ok {K : PySem.W.Frag} {p : Pt} : ∀ {xs : List P} {vs : List V} {ds : List D}, RPs K p xs vs → asDs xs = some ds → RDs K p ds vs
  | [], _, _, .nil, h => by cases h; exact .nil
  | .d x :: r, _, ds, .cons h t, e => by
    simp only [asDs, Option.map_eq_some_iff] at e
    obtain ⟨ds', e1, rfl⟩ := e
    exact .cons h (asDs_ok t e1)
  | .loc _ :: _, _, _, _, e => by cases e
  | .exc _ _ _ _ :: _, _, _, _, e => by cases e
def kTupD (Q : P → LS → Prop) (xs : List P) (l : LS) : Prop := match asDs xs with
  | some ds => ds.length ≤ 1000 ∧ Q (.d (.tup ds)) l
  | none => False
def wTup (ws : WA) (σ : SS) (l : LS) (Q : P → LS → Prop) (E : EK) : Prop := ws σ l (kTupD Q) E
theorem qe_tup {x1} (h : QA X W es ws) : QE X W (.Tuple es x1 pos) (wTup ws) := PE.imp (pe_tup h) fun σ H Q ⟨p, σd, l, Qd, Ed, hH, R, hw, k, lk⟩ => by
  subst hH
  refine cA_ok R hw lk fun xs l1 vs p1 e1 R1 r1 q1 => ?_
  unfold kTupD at q1
  split at q1
  · rename_i ds hd
    have r := asDs_ok r1 hd
    refine ⟨by rw [← r.len]; exact Nat.le_trans q1.1 (by decide), After.newT (fun d l' v' p' e' w' c' r' q' => k d l' v' p' (e1.trans e') (R1.ext e' w' c') r' q') R1.wf R1.ce r q1.2⟩
  · exact q1.elim
def kLstD (f : Fresh) (Q : P → LS → Prop) (xs : List P) (l : LS) : Prop := match asDs xs with
  | some ds => ds.length ≤ 1000 ∧ freshL f ds l Q
  | none => False
def wLst (f : Fresh) (ws : WA) (σ : SS) (l : LS) (Q : P → LS → Prop) (E : EK) : Prop := ws σ l (kLstD f Q) E
theorem qe_lst {f : Fresh} (h : QA X W es ws) : QE X W (.List es pos) (wLst f ws) := PE.imp (pe_lst h) fun σ H Q ⟨p, σd, l, Qd, Ed, hH, R, hw, k, lk⟩ => by
  subst hH
  refine cA_ok R hw lk fun xs l1 vs p1 e1 R1 r1 q1 => ?_
  unfold kLstD at q1
  split at q1
  · rename_i ds hd
    have r := asDs_ok r1 hd
    refine ⟨by rw [← r.len]; exact Nat.le_trans q1.1 (by decide), After.fresh (fun d l' v' p' e' w' c' r' q' => k d l' v' p' (e1.trans e') (R1.ext e' w' c') r' q') R1.wf R1.ce r f q1.2⟩
  · exact q1.elim
/-- a cell that will not change any more -/
def kIce (Q : P → LS → Prop) (x : P) (l : LS) : Prop := match x with
  | .loc n => match l[n]? with
    | some (.lst xs) => Q (.d (.lst xs)) (l.set n (.frz xs))
    | some (.frz xs) => Q (.d (.lst xs)) l
    | some (.dk kvs) => Q (.d (.dk (kvs.map (·.1)) (kvs.map (·.2)))) (l.set n (.fz (.dk (kvs.map (·.1)) (kvs.map (·.2)))))
    | some (.dt kvs) => Q (.d (.dt (kvs.map (·.1)) (kvs.map (·.2)))) (l.set n (.fz (.dt (kvs.map (·.1)) (kvs.map (·.2)))))
    | some (.fz x) => Q (.d x) l
    | some (.own _ xs) => Q (.d (.lst xs)) (l.set n (.frz xs))
    | some (.ins C ns xs) => Q (.d (.obj C ns xs)) (l.set n (.fz (.obj C ns xs)))
    | _ => False
  | x => Q x l
def wIce (we : WE) (σ : SS) (l : LS) (Q : P → LS → Prop) (E : EK) : Prop := we σ l (kIce Q) E
def tIceP (t : TE) : TE := fun σ H Q => t σ H fun v H1 => Q v H1 ∨ ∃ d u, v = .ref d ∧ H1 d = some u ∧ Mut (some u) ∧ ∀ od, Q v (upd H1 d (.frz od u))
theorem pe_iceP {t : TE} (h : PE X e t) : PE X e (tIceP t) := ⟨fun pins s σ H Q I q => thn (h.run pins s σ H _ I q) fun v s1 ⟨x, H1, I1, r, q1⟩ => by
  rcases q1 with q1 | ⟨d, u, ev, hd, mu, q1⟩
  · exact ⟨x, H1, I1, r, q1⟩
  · obtain ⟨od, I2⟩ := I1.lock hd mu
    exact ⟨x, _, I2, r, q1 od⟩⟩
theorem qe_ice (h : QE X W e we) : QE X W e (wIce we) := PE.imp (pe_iceP h) fun σ H Q ⟨p, σd, l, Qd, Ed, hH, R, hw, k, lk⟩ => by
  subst hH
  refine cE_ok R hw lk fun x l1 v p1 e1 R1 r1 q1 => ?_
  cases x with
  | d x => exact .inl (k _ _ _ _ e1 R1 r1 q1)
  | exc _ _ _ _ => exact .inl (k _ _ _ _ e1 R1 r1 q1)
  | loc n =>
    obtain ⟨a, h1, rfl⟩ := r1
    unfold kIce at q1
    dsimp only at q1
    cases e : l1[n]? with
    | none => rw [e] at q1; exact q1.elim
    | some c =>
      rw [e] at q1
      cases c with
      | lst xs =>
        have q : Qd (.d (.lst xs)) (l1.set n (.frz xs)) := q1
        obtain ⟨c1, r2⟩ := Cells.ice R1.wf R1.ce h1 e
        have hr := List.mem_of_getElem? h1
        exact .inl (k (.d (.lst xs)) _ _ (p1.ice a) (e1.trans (ext_ice hr)) (R1.ext (ext_ice hr) (wf_ice R1.wf hr) c1) r2 q)
      | frz xs =>
        have q : Qd (.d (.lst xs)) l1 := q1
        obtain ⟨b, h2, vs, h3, h4⟩ := R1.ce.2 n _ e
        rw [h1] at h2
        cases h2
        exact .inl (k (.d (.lst xs)) _ _ p1 e1 R1 (show RP X.K p1 (.d (.lst xs)) (.ref a) from RD.lst h3 h4) q)
      | dk kvs =>
        have hr := List.mem_of_getElem? h1
        obtain ⟨b, h2, nf, vs, h3, h4⟩ := R1.ce.2 n _ e
        rw [h1] at h2
        cases h2
        have ht : ∀ vs, p1.H a ≠ some (.tup vs) := fun _ z => by rw [h3] at z; cases z
        refine .inr ⟨a, _, rfl, h3, True.intro, fun od => ?_⟩
        have rx : RD X.K (p1.lck a (.frz od (.dK ((kvs.map (·.1)).zip vs)))) (.dk (kvs.map (·.1)) (kvs.map (·.2))) (.ref a) := RD.dk (.inr rfl) upd_same (by simp) (h4.mono (ext_lck hr nf ht).hf)
        exact k _ _ _ (p1.lck a _) (e1.trans (ext_lck hr nf ht)) (R1.ext (ext_lck hr nf ht) (wf_lck R1.wf) (Cells.lck (c := .fz _) R1.wf R1.ce h1 e nf ht (show CellOk X.K _ (.fz _) a from rx))) (show RP X.K _ (.d _) _ from rx) q1
      | dt kvs =>
        have hr := List.mem_of_getElem? h1
        obtain ⟨b, h2, nf, vs, h3, h4⟩ := R1.ce.2 n _ e
        rw [h1] at h2
        cases h2
        have ht : ∀ vs, p1.H a ≠ some (.tup vs) := fun _ z => by rw [h3] at z; cases z
        refine .inr ⟨a, _, rfl, h3, True.intro, fun od => ?_⟩
        have rx : RD X.K (p1.lck a (.frz od (.dT ((kvs.map (·.1)).zip vs)))) (.dt (kvs.map (·.1)) (kvs.map (·.2))) (.ref a) := RD.dt (.inr rfl) upd_same (by simp) (h4.mono (ext_lck hr nf ht).hf)
        exact k _ _ _ (p1.lck a _) (e1.trans (ext_lck hr nf ht)) (R1.ext (ext_lck hr nf ht) (wf_lck R1.wf) (Cells.lck (c := .fz _) R1.wf R1.ce h1 e nf ht (show CellOk X.K _ (.fz _) a from rx))) (show RP X.K _ (.d _) _ from rx) q1
      | fz x =>
        obtain ⟨b, h2, h3⟩ := R1.ce.2 n _ e
        rw [h1] at h2
        cases h2
        exact .inl (k (.d x) _ _ p1 e1 R1 h3 q1)
      | own b0 xs =>
        have q : Qd (.d (.lst xs)) (l1.set n (.frz xs)) := q1
        obtain ⟨b, h2, rfl, nf, vs, h3, h4⟩ := R1.ce.2 n _ e
        rw [h1] at h2
        cases h2
        have hr := List.mem_of_getElem? h1
        have la : LstAt (p1.ice a) a vs := ⟨.inr rfl, h3⟩
        have c1 := Cells.iceL R1.wf R1.ce h1 e la (h4.mono (ext_ice hr).hf)
        exact .inl (k (.d (.lst xs)) _ _ (p1.ice a) (e1.trans (ext_ice hr)) (R1.ext (ext_ice hr) (wf_ice R1.wf hr) c1) (show RP X.K (p1.ice a) (.d (.lst xs)) (.ref a) from RD.lst la (h4.mono (ext_ice hr).hf)) q)
      | ins C ns xs =>
        have hr := List.mem_of_getElem? h1
        obtain ⟨b, h2, nf, dx, vs, h3, hl, h4⟩ := R1.ce.2 n _ e
        rw [h1] at h2
        cases h2
        have rx : RD X.K (p1.ice a) (.obj C ns xs) (.ref a) := RD.obj (.inr rfl) h3 (h4.mono (ext_ice hr).hf)
        exact .inl (k _ _ _ (p1.ice a) (e1.trans (ext_ice hr)) (R1.ext (ext_ice hr) (wf_ice R1.wf hr) (Cells.iceD R1.wf R1.ce h1 e rx)) (show RP X.K _ (.d _) _ from rx) q1)
      | dkc _ => exact q1.elim
      | dtc _ => exact q1.elim
      | lsc _ => exact q1.elim
end
section
variable {K : PySem.W.Frag}
/-! ### built-ins -/
def bLen (xs : List P) (l : LS) (Q : P → LS → Prop) : Prop := match xs with
  | [x] => match seqOf l x with
    | some ys => Q (.d (.int (ys.length : Int))) l
    | none => False
  | _ => False
theorem ref_len : RefCall K (fun xs H Q => ∃ p ys, xs = [V.ref p] ∧ (SqL K H p ys ∨ SqT K H p ys) ∧ Q (V.int ys.length) H) bLen := fun p l xs vs Qd Q w ce rx h k => by
  unfold bLen at h
  split at h
  · obtain ⟨v, rfl, r⟩ := rx.one
    split at h
    · rename_i ys hy
      obtain ⟨a, us, rfl, hs, hr⟩ := seqOf_ok ce r hy
      refine ⟨a, us, rfl, hs, ?_⟩
      rw [← hr.len]
      exact k.same w ce (d := .d _) (RD.int _) h
    · exact h.elim
  · exact h.elim
def bLenS (xs : List P) (l : LS) (Q : P → LS → Prop) : Prop := match xs with
  | [.d (.str z)] => z.length ≤ sizeLine ∧ Q (.d (.int (z.length : Int))) l
  | _ => False
theorem ref_lenS : RefCall K (fun xs H Q => ∃ z, xs = [V.str z] ∧ z.length ≤ sizeLine ∧ Q (V.int z.length) H) bLenS := fun p l xs vs Qd Q w ce rx h k => by
  unfold bLenS at h
  split at h
  · obtain ⟨v, rfl, r⟩ := rx.one
    cases r
    exact ⟨_, rfl, h.1, k.same w ce (d := .d _) (RD.int _) h.2⟩
  · exact h.elim
def bList (f : Fresh) (xs : List P) (l : LS) (Q : P → LS → Prop) : Prop := match xs with
  | [x] => match seqOf l x with
    | some ys => freshL f ys l Q
    | none => False
  | _ => False
theorem ref_list {f : Fresh} : RefCall K (fun xs H Q => ∃ p ys, xs = [V.ref p] ∧ (SqL K H p ys ∨ SqT K H p ys) ∧ ∀ l, H l = none → Q (.ref l) (upd H l (.lst ys))) (bList f) := fun p l xs vs Qd Q w ce rx h k => by
  unfold bList at h
  split at h
  · obtain ⟨v, rfl, r⟩ := rx.one
    split at h
    · rename_i ys hy
      obtain ⟨a, us, rfl, hs, hr⟩ := seqOf_ok ce r hy
      exact ⟨a, us, rfl, hs, k.fresh w ce hr f h⟩
    · exact h.elim
  · exact h.elim
def bTup (xs : List P) (l : LS) (Q : P → LS → Prop) : Prop := match xs with
  | [.d (.ktu ys)] => Q (.d (.ktu ys)) l
  | [.d (.tux ys)] => Q (.d (.tux ys)) l
  | [x] => match seqOf l x with
    | some ys => Q (.d (.tup ys)) l
    | none => False
  | _ => False
theorem ref_tuple : RefCall K (fun xs H Q => ∃ p ys, xs = [V.ref p] ∧ ((SqL K H p ys ∧ ∀ l, H l = none → Q (.ref l) (upd H l (.tup ys))) ∨ (SqT K H p ys ∧ Q (.ref p) H))) bTup := fun p l xs vs Qd Q w ce rx h k => by
  unfold bTup at h
  split at h
  · obtain ⟨v, rfl, r⟩ := rx.one
    cases (show RD K p (.ktu _) v from r) with
    | ktu h1 h2 => exact ⟨_, _, rfl, .inr ⟨seqT_empty h1, k.same w ce (d := .d _) (RD.ktu h1 h2) h⟩⟩
  · obtain ⟨v, rfl, r⟩ := rx.one
    cases (show RD K p (.tux _) v from r) with
    | tux hF h1 hn h2 => exact ⟨_, _, rfl, .inr ⟨.inl (.inr ⟨_, h1⟩), k.same w ce (d := .d _) (RD.tux hF h1 hn h2) h⟩⟩
  · rename_i x nt nx
    obtain ⟨v, rfl, r⟩ := rx.one
    split at h
    · rename_i ys hy
      cases x with
      | d x =>
        cases x with
        | ktu ys => exact absurd rfl (nt _)
        | tux ys => exact absurd rfl (nx _)
        | tup zs =>
          cases hy
          cases r with
          | tup h1 h2 => exact ⟨_, _, rfl, .inr ⟨h1.sq, k.same w ce (d := .d _) (RD.tup h1 h2) h⟩⟩
        | lst zs =>
          cases hy
          cases r with
          | lst h1 h2 => exact ⟨_, _, rfl, .inl ⟨LstAt.sq (K := K) h1, k.newT w ce h2 h⟩⟩
        | scr zs =>
          cases hy
          cases r with
          | scr h1 h2 => exact ⟨_, _, rfl, .inl ⟨h1.sq, k.newT w ce h2 h⟩⟩
        | _ => cases hy
      | loc n =>
        obtain ⟨a, us, rfl, h1, h2⟩ := lstOf_ok ce r (show lstOf l (.loc n) = some ys from hy)
        exact ⟨_, _, rfl, .inl ⟨.inl (.inl h1), k.newT w ce h2 h⟩⟩
      | exc _ _ _ _ => cases hy
    · exact h.elim
  · exact h.elim
/-- a list (not a tuple) of things of one form -/
def lisOf (l : LS) : P → Option (List D)
  | .d (.lst xs) => some xs
  | .d (.scr xs) => some xs
  | .loc n => lstOf l (.loc n)
  | _ => none
theorem lisOf_ok {p : Pt} {l : LS} {x : P} {v : V} {xs : List D} (ce : Cells K p l) (r : RP K p x v) (h : lisOf l x = some xs) : ∃ a vs, v = .ref a ∧ SqL K p.H a vs ∧ RDs K p xs vs := by
  cases x with
  | d x =>
    cases x with
    | lst ys =>
      cases h
      cases r with
      | lst h1 h2 => exact ⟨_, _, rfl, LstAt.sq (K := K) h1, h2⟩
    | scr ys =>
      cases h
      cases r with
      | scr h1 h2 => exact ⟨_, _, rfl, h1.sq, h2⟩
    | _ => cases h
  | loc n =>
    obtain ⟨a, vs, rfl, h1, h2⟩ := lstOf_ok ce r h
    exact ⟨a, vs, rfl, .inl (.inl h1), h2⟩
  | exc _ _ _ _ => cases h
def bSum (xs : List P) (l : LS) (Q : P → LS → Prop) : Prop := match xs with
  | [x] => ∃ ns : List Int, lisOf l x = some (ns.map .int) ∧ Q (.d (.int ns.sum)) l
  | _ => False
theorem ref_sum : RefCall K (rSum K) bSum := fun p l xs vs Qd Q w ce rx h k => by
  unfold bSum at h
  split at h
  · obtain ⟨v, rfl, r⟩ := rx.one
    obtain ⟨ns, h1, h2⟩ := h
    obtain ⟨a, us, rfl, hs, hr⟩ := lisOf_ok ce r h1
    rw [hr.ints] at hs
    exact ⟨a, ns, rfl, hs, k.same w ce (d := .d _) (RD.int _) h2⟩
  · exact h.elim
def bAny (xs : List P) (l : LS) (Q : P → LS → Prop) : Prop := match xs with
  | [x] => ∃ ns : List Bool, lisOf l x = some (ns.map .bl) ∧ Q (.d (.bl (ns.any id))) l
  | _ => False
theorem ref_any : RefCall K (rAny K) bAny := fun p l xs vs Qd Q w ce rx h k => by
  unfold bAny at h
  split at h
  · obtain ⟨v, rfl, r⟩ := rx.one
    obtain ⟨ns, h1, h2⟩ := h
    obtain ⟨a, us, rfl, hs, hr⟩ := lisOf_ok ce r h1
    rw [hr.bls] at hs
    exact ⟨a, ns, rfl, hs, k.same w ce (d := .d _) (RD.bl _) h2⟩
  · exact h.elim
def bAll (xs : List P) (l : LS) (Q : P → LS → Prop) : Prop := match xs with
  | [x] => ∃ ns : List Bool, lisOf l x = some (ns.map .bl) ∧ Q (.d (.bl (ns.all id))) l
  | _ => False
theorem ref_all : RefCall K (rAll K) bAll := fun p l xs vs Qd Q w ce rx h k => by
  unfold bAll at h
  split at h
  · obtain ⟨v, rfl, r⟩ := rx.one
    obtain ⟨ns, h1, h2⟩ := h
    obtain ⟨a, us, rfl, hs, hr⟩ := lisOf_ok ce r h1
    rw [hr.bls] at hs
    exact ⟨a, ns, rfl, hs, k.same w ce (d := .d _) (RD.bl _) h2⟩
  · exact h.elim
def bMax (xs : List P) (l : LS) (Q : P → LS → Prop) : Prop := match xs with
  | [x] => ∃ ns : List Int, lisOf l x = some (ns.map .int) ∧ 0 < ns.length ∧ ∀ m, m ∈ ns → (∀ y, y ∈ ns → y ≤ m) → Q (.d (.int m)) l
  | _ => False
theorem ref_max : RefCall K (rMax K) bMax := fun p l xs vs Qd Q w ce rx h k => by
  unfold bMax at h
  split at h
  · obtain ⟨v, rfl, r⟩ := rx.one
    obtain ⟨ns, h1, h0, h2⟩ := h
    obtain ⟨a, us, rfl, hs, hr⟩ := lisOf_ok ce r h1
    rw [hr.ints] at hs
    exact ⟨a, ns, rfl, hs, h0, fun m hm hy => k.same w ce (d := .d _) (RD.int _) (h2 m hm hy)⟩
  · exact h.elim
def bMin (xs : List P) (l : LS) (Q : P → LS → Prop) : Prop := match xs with
  | [x] => ∃ ns : List Int, lisOf l x = some (ns.map .int) ∧ 0 < ns.length ∧ ∀ m, m ∈ ns → (∀ y, y ∈ ns → m ≤ y) → Q (.d (.int m)) l
  | _ => False
theorem ref_min : RefCall K (rMin K) bMin := fun p l xs vs Qd Q w ce rx h k => by
  unfold bMin at h
  split at h
  · obtain ⟨v, rfl, r⟩ := rx.one
    obtain ⟨ns, h1, h0, h2⟩ := h
    obtain ⟨a, us, rfl, hs, hr⟩ := lisOf_ok ce r h1
    rw [hr.ints] at hs
    exact ⟨a, ns, rfl, hs, h0, fun m hm hy => k.same w ce (d := .d _) (RD.int _) (h2 m hm hy)⟩
  · exact h.elim
def bInt2 (g : Int → Int → Int) (xs : List P) (l : LS) (Q : P → LS → Prop) : Prop := match xs with
  | [.d (.int i), .d (.int j)] => Q (.d (.int (g i j))) l
  | _ => False
theorem ref_int2 {g : Int → Int → Int} : RefCall K (fun xs H Q => ∃ i j, xs = [V.int i, V.int j] ∧ Q (.int (g i j)) H) (bInt2 g) := fun p l xs vs Qd Q w ce rx h k => by
  unfold bInt2 at h
  split at h
  · obtain ⟨v, u, rfl, r, r2⟩ := rx.two
    cases r; cases r2
    exact ⟨_, _, rfl, k.same w ce (d := .d _) (RD.int _) h⟩
  · exact h.elim
def bInt1 (g : Int → Int) (xs : List P) (l : LS) (Q : P → LS → Prop) : Prop := match xs with
  | [.d (.int i)] => Q (.d (.int (g i))) l
  | _ => False
theorem ref_abs : RefCall K (fun xs H Q => ∃ i, xs = [V.int i] ∧ Q (.int (if i < 0 then -i else i)) H) (bInt1 fun i => if i < 0 then -i else i) := fun p l xs vs Qd Q w ce rx h k => by
  unfold bInt1 at h
  split at h
  · obtain ⟨v, rfl, r⟩ := rx.one
    cases r
    exact ⟨_, rfl, k.same w ce (d := .d _) (RD.int _) h⟩
  · exact h.elim
theorem ref_int : RefCall K (fun xs H Q => (∃ i, xs = [V.int i] ∧ Q (.int i) H) ∨ ∃ k, xs = [.bl k] ∧ Q (.int (if k then 1 else 0)) H) (bInt1 fun i => i) := fun p l xs vs Qd Q w ce rx h k => by
  unfold bInt1 at h
  split at h
  · obtain ⟨v, rfl, r⟩ := rx.one
    cases r
    exact .inl ⟨_, rfl, k.same w ce (d := .d _) (RD.int _) h⟩
  · exact h.elim
def bStr (xs : List P) (l : LS) (Q : P → LS → Prop) : Prop := match xs with
  | [.d (.int i)] => i.natAbs.log2 < 1920 ∧ Q (.d (.str (toString i))) l
  | _ => False
theorem ref_str : RefCall K (fun xs H Q => ∃ i : Int, xs = [V.int i] ∧ i.natAbs.log2 < 1920 ∧ Q (.str (toString i)) H) bStr := fun p l xs vs Qd Q w ce rx h k => by
  unfold bStr at h
  split at h
  · obtain ⟨v, rfl, r⟩ := rx.one
    cases r
    exact ⟨_, rfl, h.1, k.same w ce (d := .d _) (RD.str _) h.2⟩
  · exact h.elim
/-- the built-in type of a thing -/
def tyOf : P → Option String
  | .d .non => some "NoneType"
  | .d (.bl _) => some "bool"
  | .d (.int _) => some "int"
  | .d (.str _) => some "str"
  | .d (.tup _) => some "tuple"
  | .d (.lst _) => some "list"
  | .d (.ktu _) => some "tuple"
  | .loc _ => some "list"
  | _ => none
theorem tupAt_ty {p : Pt} {a : Addr} {vs : List V} (h : TupAt K p a vs) : TyX K p.H (.ref a) (.type "tuple") := by
  exact .base (.tup h)
theorem ktuAt_ty {H : Hp} {a : Addr} {vs : List V} (h : SqT K (fun _ => none) a vs) : TyX K H (.ref a) (.type "tuple") := by
  rcases h with (h | ⟨o, h⟩) | ⟨o, its, n, h1, h2, h3⟩
  · cases h
  · cases h
  · exact .kTuple h1 h2
theorem tyOf_ok {p : Pt} {l : LS} {x : P} {v : V} {n : String} (ce : Cells K p l) (r : RP K p x v) (h : tyOf x = some n) (hl : ∀ m, x = .loc m → (lstOf l x).isSome = true) : TyX K p.H v (.type n) := by
  cases x with
  | d x =>
    cases r with
    | non => cases h; exact .base .non
    | bl _ => cases h; exact .base (.bl _)
    | int _ => cases h; exact .base (.int _)
    | str _ => cases h; exact .base (.str _)
    | tup h1 _ => cases h; exact tupAt_ty h1
    | lst h1 _ => cases h; exact .base (.lst h1.2)
    | ty _ => cases h
    | scr _ _ => cases h
    | obj _ _ _ => cases h
    | dk _ _ _ _ => cases h
    | dt _ _ _ _ => cases h
    | ktu h1 _ => cases h; exact ktuAt_ty h1
    | tux _ _ _ _ => cases h
  | loc m =>
    cases h
    obtain ⟨xs, e⟩ := Option.isSome_iff_exists.mp (hl m rfl)
    obtain ⟨a, vs, rfl, h1, _⟩ := lstOf_ok ce r e
    exact .base (.lst h1)
  | exc _ _ _ _ => cases h
/-- isinstance(x, T), T a built-in type -/
def isT (n c : String) : Option Bool :=
  if n = c then (if n ∈ ["NoneType", "bool", "int", "str", "tuple", "list"] then some true else none)
  else if n = "bool" ∧ c = "int" then some true
  else if n ∈ ["NoneType", "bool", "int", "str", "tuple", "list"] ∧ c ∈ ["bool", "int", "str", "tuple", "list", "dict"] then some false else none
theorem isT_ok {n c : String} {b : Bool} (h : isT n c = some b) : kitB n c = some b := by
  unfold isT at h
  have all1 : ∀ n ∈ ["NoneType", "bool", "int", "str", "tuple", "list"], kitB n n = some true := by decide +kernel
  have all2 : ∀ n ∈ ["NoneType", "bool", "int", "str", "tuple", "list"], ∀ c ∈ ["bool", "int", "str", "tuple", "list", "dict"], n ≠ c → ¬ (n = "bool" ∧ c = "int") → kitB n c = some false := by decide +kernel
  split at h
  · rename_i e
    subst e
    split at h
    · rename_i m
      cases h
      exact all1 n m
    · cases h
  · rename_i ne
    split at h
    · rename_i m
      cases h
      obtain ⟨rfl, rfl⟩ := m
      decide +kernel
    · rename_i nb
      split at h
      · rename_i m
        cases h
        exact all2 n m.1 c m.2 ne nb
      · cases h
def bIsi (xs : List P) (l : LS) (Q : P → LS → Prop) : Prop := match xs with
  | [x, .d (.ty c)] => match tyOf x with
    | some n => match x with
      | .loc m => (lstOf l (.loc m)).isSome = true ∧ match isT n c with
        | some b => Q (.d (.bl b)) l
        | none => False
      | _ => match isT n c with
        | some b => Q (.d (.bl b)) l
        | none => False
    | none => False
  | _ => False
theorem ref_isi : RefCall K (rIsi K) bIsi := fun p l xs vs Qd Q w ce rx h k => by
  unfold bIsi at h
  split at h
  · rename_i x c
    obtain ⟨v, u, rfl, r, r2⟩ := rx.two
    cases r2
    cases e : tyOf x with
    | none => rw [e] at h; exact h.elim
    | some n =>
      rw [e] at h
      have fin : (∀ m, x = .loc m → (lstOf l x).isSome = true) → (match isT n c with | some b => Qd (.d (.bl b)) l | none => False) → rIsi K [v, .ty c] p.H Q := fun hl hq => by
        split at hq
        · rename_i b eb
          exact ⟨v, .ty c, .type n, .type c, b, rfl, .ty c, tyOf_ok ce r e hl, kit_ty (isT_ok eb), k.same w ce (d := .d _) (RD.bl _) hq⟩
        · exact hq.elim
      cases x with
      | d x => exact fin (fun m z => nomatch z) h
      | loc m => exact fin (fun m' z => by cases z; exact h.1) h.2
      | exc _ _ _ _ => exact fin (fun m z => nomatch z) h
  · exact h.elim
end
/-! ### methods of lists -/
section
variable {X : Cx} {W : WX} {a b e o : Expr} {es : List Expr} {wa wb we wo : WE} {ws : WA} {pos : Pos}
def RefMt (K : PySem.W.Frag) (r : V → List V → Hp → VK → Prop) (rd : ODm) : Prop := ∀ (p : Pt) (l : LS) (x : P) (vx : V) (xs : List P) (vs : List V) (Qd : P → LS → Prop) (Q : VK), WF p → Cells K p l → RP K p x vx → RPs K p xs vs → rd x xs l Qd → After K p Qd Q → r vx vs p.H Q
theorem RPs.mono {K : PySem.W.Frag} {p p' : Pt} (e : Ext p p') {xs : List P} {vs : List V} (h : RPs K p xs vs) : RPs K p' xs vs := Paired.mapP h fun _ _ r => r.mono e
def kBM2 (rd : ODm) (x : P) (Q : P → LS → Prop) (xs : List P) (l : LS) : Prop := rd x xs l Q
def kBM1 (rd : ODm) (ws : WA) (σ : SS) (Q : P → LS → Prop) (E : EK) (x : P) (l : LS) : Prop := (lisOf l x).isSome = true ∧ ws σ l (kBM2 rd x Q) E
def wBM (rd : ODm) (wo : WE) (ws : WA) (σ : SS) (l : LS) (Q : P → LS → Prop) (E : EK) : Prop := wo σ l (kBM1 rd ws σ Q E) E
def kBM0 (rd : ODm) (Q : P → LS → Prop) (x : P) (l : LS) : Prop := (lisOf l x).isSome = true ∧ rd x [] l Q
def wBM0 (rd : ODm) (wo : WE) (σ : SS) (l : LS) (Q : P → LS → Prop) (E : EK) : Prop := wo σ l (kBM0 rd Q) E
theorem lis_ty {K : PySem.W.Frag} {p : Pt} {l : LS} {x : P} {v : V} (ce : Cells K p l) (r : RP K p x v) (h : (lisOf l x).isSome = true) : tyV K "list" v p.H := by
  obtain ⟨xs, e⟩ := Option.isSome_iff_exists.mp h
  obtain ⟨a, vs, rfl, hs, _⟩ := lisOf_ok ce r e
  exact .inl ⟨rfl, vs, hs⟩
theorem qe_bm {name : Str} {id : String} {r : V → List V → Hp → VK → Prop} {rd : ODm} {apos cpos : Pos} (slot : Slot "list" name id) (hty : typeOf (.builtin id) = pure (.type "method_descriptor")) (hm : MtR X id r) (rr : RefMt X.K r rd) (ho : QE X W o wo) (ha : QA X W (e :: es) ws)
    (hbase : attributeBase o name X.env (eval o X.env) = eval o X.env := by rfl)
    (hp : ((backTo cpos (starEach (e :: es) X.env)).all (fun x => !x.1) && (backToKw cpos (keywordEach [] X.env)).all (fun x => x.1.isSome) && decide ((e :: es).length + ([] : List Keyword).length + (if ([] : List Keyword).isEmpty = true then 0 else 1) < 30)) = true := by rfl)
    (hline : (apos.endLine == cpos.line) = true := by rfl) (hs : starEach (e :: es) X.env = (false, eval e X.env) :: starEach es X.env := by rfl) (hpl : (backTo cpos (starEach es X.env)).any (·.1) = false := by rfl) :
    QE X W (.Call (.Attribute o name apos) (e :: es) [] cpos) (wBM rd wo ws) := PE.imp (pe_bm PySem.F.plainAttrs_list slot hty hm ho ha hbase hp hline hs hpl) fun σ H Q ⟨p, σd, l, Qd, Ed, hH, R, hw, k, lk⟩ => by
  subst hH
  exact cE_ok R hw lk fun x l1 v p1 e1 R1 r1 q1 => ⟨lis_ty R1.ce r1 q1.1, cA_ok R1 q1.2 (lk.mono e1) fun xs l2 vs p2 e2 R2 r2 q2 =>
    rr p2 l2 x v xs vs _ _ R2.wf R2.ce (r1.mono e2) r2 q2 fun d l' v' p' e' w' c' r' q' => k d l' v' p' ((e1.trans e2).trans e') (R2.ext e' w' c') r' q'⟩
theorem qe_bm0 {name : Str} {id : String} {r : V → List V → Hp → VK → Prop} {rd : ODm} {apos cpos : Pos} (slot : Slot "list" name id) (hty : typeOf (.builtin id) = pure (.type "method_descriptor")) (hm : MtR X id r) (rr : RefMt X.K r rd) (ho : QE X W o wo)
    (hbase : attributeBase o name X.env (eval o X.env) = eval o X.env := by rfl) (hline : (apos.endLine == cpos.line) = true := by rfl) : QE X W (.Call (.Attribute o name apos) [] [] cpos) (wBM0 rd wo) := PE.imp (pe_bm0 PySem.F.plainAttrs_list slot hty hm ho hbase hline) fun σ H Q ⟨p, σd, l, Qd, Ed, hH, R, hw, k, lk⟩ => by
  subst hH
  exact cE_ok R hw lk fun x l1 v p1 e1 R1 r1 q1 => ⟨lis_ty R1.ce r1 q1.1, rr p1 l1 x v [] [] _ _ R1.wf R1.ce r1 .nil q1.2 fun d l' v' p' e' w' c' r' q' => k d l' v' p' (e1.trans e') (R1.ext e' w' c') r' q'⟩
end
section
variable {K : PySem.W.Frag}
/-- a cell is written -/
theorem put_ok {p : Pt} {l : LS} {n : Nat} {v : V} {xs ys : List D} {vs us : List V} (w : WF p) (ce : Cells K p l) (r : RP K p (.loc n) v) (e : l[n]? = some (.lst xs)) : ∃ a, v = .ref a ∧ ∃ vs, p.H a = some (.lst vs) ∧ RDs K p xs vs ∧
    ∀ ys us, RDs K p ys us → Ext p (p.put a (.lst us)) ∧ WF (p.put a (.lst us)) ∧ Cells K (p.put a (.lst us)) (l.set n (.lst ys)) := by
  obtain ⟨a, h1, rfl⟩ := r
  obtain ⟨b, h2, nf, vs, h3, h4⟩ := ce.2 n _ e
  rw [h1] at h2
  cases h2
  have hr := List.mem_of_getElem? h1
  exact ⟨a, rfl, vs, h3, h4, fun ys us q => ⟨ext_put hr nf (fun _ z => by rw [h3] at z; cases z), wf_put w, Cells.put w ce h1 nf (fun _ z => by rw [h3] at z; cases z) ⟨nf, us, upd_same, q.mono (ext_put hr nf (fun _ z => by rw [h3] at z; cases z)).hf⟩⟩⟩
theorem putO_ok {p : Pt} {l : LS} {n : Nat} {v : V} {b0 : Addr} {xs : List D} (w : WF p) (ce : Cells K p l) (r : RP K p (.loc n) v) (e : l[n]? = some (.own b0 xs)) : ∃ a, v = .ref a ∧ ∃ vs, p.H a = some (.lst vs) ∧ RDs K p xs vs ∧
    ∀ ys us, RDs K p ys us → Ext p (p.put a (.lst us)) ∧ WF (p.put a (.lst us)) ∧ Cells K (p.put a (.lst us)) (l.set n (.own b0 ys)) := by
  obtain ⟨a, h1, rfl⟩ := r
  obtain ⟨b, h2, rfl, nf, vs, h3, h4⟩ := ce.2 n _ e
  rw [h1] at h2
  cases h2
  have hr := List.mem_of_getElem? h1
  exact ⟨a, rfl, vs, h3, h4, fun ys us q => ⟨ext_put hr nf (fun _ z => by rw [h3] at z; cases z), wf_put w, Cells.put w ce h1 nf (fun _ z => by rw [h3] at z; cases z) ⟨rfl, nf, us, upd_same, q.mono (ext_put hr nf (fun _ z => by rw [h3] at z; cases z)).hf⟩⟩⟩
def mAppend (x : P) (xs : List P) (l : LS) (Q : P → LS → Prop) : Prop := match x, xs with
  | .loc n, [.d y] => match l[n]? with
    | some (.lst ys) => ys.length < sizeLine ∧ Q (.d .non) (l.set n (.lst (ys ++ [y])))
    | some (.own b ys) => ys.length < sizeLine ∧ Q (.d .non) (l.set n (.own b (ys ++ [y])))
    | _ => False
  | _, _ => False
theorem ref_append : RefMt K rAppend mAppend := fun p l x vx xs vs Qd Q w ce rx rxs h k => by
  unfold mAppend at h
  split at h
  · rename_i n y
    obtain ⟨v, rfl, r⟩ := rxs.one
    split at h
    · rename_i ys hy
      obtain ⟨a, rfl, us, h3, h4, f⟩ := put_ok (ys := []) (us := []) (vs := []) w ce rx hy
      obtain ⟨e1, w1, c1⟩ := f (ys ++ [y]) (us ++ [v]) (h4.append (.cons r .nil))
      exact ⟨a, us, v, rfl, rfl, h3, by rw [← h4.len]; exact h.1, k (.d .non) _ _ _ e1 w1 c1 RD.non h.2⟩
    · rename_i b ys hy
      obtain ⟨a, rfl, us, h3, h4, f⟩ := putO_ok w ce rx hy
      obtain ⟨e1, w1, c1⟩ := f (ys ++ [y]) (us ++ [v]) (h4.append (.cons r .nil))
      exact ⟨a, us, v, rfl, rfl, h3, by rw [← h4.len]; exact h.1, k (.d .non) _ _ _ e1 w1 c1 RD.non h.2⟩
    · exact h.elim
  · exact h.elim
def mPop (x : P) (xs : List P) (l : LS) (Q : P → LS → Prop) : Prop := match x, xs with
  | .loc n, [] => match l[n]? with
    | some (.lst ys) => ∃ y, ys[ys.length - 1]? = some y ∧ Q (.d y) (l.set n (.lst ys.dropLast))
    | _ => False
  | _, _ => False
theorem ref_pop : RefMt K rPop mPop := fun p l x vx xs vs Qd Q w ce rx rxs h k => by
  unfold mPop at h
  split at h
  · rename_i n
    cases rxs
    split at h
    · rename_i ys hy
      obtain ⟨y, hy1, hy2⟩ := h
      obtain ⟨a, rfl, us, h3, h4, f⟩ := put_ok (ys := []) (us := []) (vs := []) w ce rx hy
      obtain ⟨e1, w1, c1⟩ := f ys.dropLast us.dropLast h4.dropLast
      obtain ⟨v, g1, g2⟩ := h4.get hy1
      exact ⟨a, us, v, rfl, rfl, h3, by rw [← h4.len]; exact g1, k (.d y) _ _ _ e1 w1 c1 (g2.mono e1.hf) hy2⟩
    · exact h.elim
  · exact h.elim
def mPopAt (x : P) (xs : List P) (l : LS) (Q : P → LS → Prop) : Prop := match x, xs with
  | .loc n, [.d (.int i)] => match l[n]? with
    | some (.lst ys) => -(2 ^ 63) ≤ i ∧ i < 2 ^ 63 ∧ ∃ k y, seqIndex? i ys.length = some k ∧ ys[k]? = some y ∧ Q (.d y) (l.set n (.lst (ys.eraseIdx k)))
    | _ => False
  | _, _ => False
theorem ref_popAt : RefMt K rPopAt mPopAt := fun p l x vx xs vs Qd Q w ce rx rxs h k => by
  unfold mPopAt at h
  split at h
  · rename_i n i
    obtain ⟨v, rfl, r⟩ := rxs.one
    cases r
    split at h
    · rename_i ys hy
      obtain ⟨b1, b2, j, y, hj, hy1, hy2⟩ := h
      obtain ⟨a, rfl, us, h3, h4, f⟩ := put_ok (ys := []) (us := []) (vs := []) w ce rx hy
      obtain ⟨e1, w1, c1⟩ := f (ys.eraseIdx j) (us.eraseIdx j) (h4.eraseIdx j)
      obtain ⟨v, g1, g2⟩ := h4.get hy1
      exact ⟨a, us, i, j, v, rfl, rfl, h3, b1, b2, by rw [← h4.len]; exact hj, g1, k (.d y) _ _ _ e1 w1 c1 (g2.mono e1.hf) hy2⟩
    · exact h.elim
  · exact h.elim
def mRev (x : P) (xs : List P) (l : LS) (Q : P → LS → Prop) : Prop := match x, xs with
  | .loc n, [] => match l[n]? with
    | some (.lst ys) => Q (.d .non) (l.set n (.lst ys.reverse))
    | _ => False
  | _, _ => False
theorem ref_reverse : RefMt K rReverse mRev := fun p l x vx xs vs Qd Q w ce rx rxs h k => by
  unfold mRev at h
  split at h
  · rename_i n
    cases rxs
    split at h
    · rename_i ys hy
      obtain ⟨a, rfl, us, h3, h4, f⟩ := put_ok (ys := []) (us := []) (vs := []) w ce rx hy
      obtain ⟨e1, w1, c1⟩ := f ys.reverse us.reverse h4.reverse
      exact ⟨a, us, rfl, rfl, h3, k (.d .non) _ _ _ e1 w1 c1 RD.non h⟩
    · exact h.elim
  · exact h.elim
def mExtend (x : P) (xs : List P) (l : LS) (Q : P → LS → Prop) : Prop := match x, xs with
  | .loc n, [y] => match l[n]? with
    | some (.lst ys) => match y with
      | .d (.tup zs) => ys.length + zs.length ≤ sizeLine ∧ Q (.d .non) (l.set n (.lst (ys ++ zs)))
      | y => match lstOf l y with
        | some zs => ys.length + zs.length ≤ sizeLine ∧ Q (.d .non) (l.set n (.lst (ys ++ zs)))
        | none => False
    | _ => False
  | _, _ => False
end
end QL
namespace PySem
open AutoSeq1
set_option maxRecDepth 8000 in
theorem list_extend_tup (l : Addr) (items : Array Value) (n : Nat) (b : Addr) (items2 : Array Value) (n2 : Nat) (dd : Option Addr) (sl : Array (Option Value)) (hs0 : ¬(!items.isEmpty && Builtin.List.listTooLong (items.size + items2.size)) = true) (hs1 : items.size ≤ sizeLine) (hs2 : items.size + items2.size ≤ sizeLine + 1) :
    Meets (Builtin.«list.extend» ⟨[.ref l, .ref b], []⟩) (fun _ R s => s.heap.get? l = some { cls := .type "list", dict := none, data := .seq items n, slots := #[] } ∧ s.heap.get? b = some { cls := .type "tuple", dict := dd, data := .seq items2 n2, slots := sl } ∧ R (.ok (.ret Value.none)) { s with heap := s.heap.update l (Obj.mapSeq fun x => x ++ items2), toks := s.toks }) :=
  .of_wp fun prog w A R s h => by
    obtain ⟨hp, g, d, tk, os⟩ := s; obtain ⟨hl, hb, h⟩ := h; have f1 := idx_int; have f2 := sub_tuple_tuple; have f3 := sub_list_list; have f4 := sub_tuple_list; have f5 := sub_list_tuple;
    have hz' : (items ++ items2).size ≤ sizeLine + 1 := by rw [Array.size_append]; exact hs2
    wp_walk using (wpAny_updateSeq hl rfl (hz := hs1) (_hz' := hz')), wpAny_loadPart' hl, wpAny_loadPart' hb; exact ⟨_, rfl, h⟩
end PySem
namespace QL
open PySem L2
def rExtT (K : PySem.W.Frag) : V → List V → Hp → VK → Prop := fun x vs H Q => ∃ l b xs zs, x = .ref l ∧ vs = [.ref b] ∧ H l = some (.lst xs) ∧ SqT K H b zs ∧ xs.length + zs.length ≤ sizeLine ∧ Q .non (upd H l (.lst (xs ++ zs)))
theorem mt_extendT {X : Cx} : MtM X "list.extend" (rExtT X.K) := by
  intro pins s σ H x v vs u Q I rx rv h
  obtain ⟨l, b, xs, zs, rfl, rfl, hH, hB, hz, q⟩ := h
  cases rx
  obtain ⟨u, rfl, ru⟩ := rv.one
  cases ru
  obtain ⟨z, its, n, r, hl, e⟩ := I.lstM hH
  obtain ⟨its2, r2, ⟨o2, e2, hc2, n2, hd2⟩, hl2⟩ := I.tuple hB
  obtain ⟨c2, d2, dt2, sl2⟩ := o2
  dsimp only at hc2 hd2
  subst hc2; subst hd2
  have hx : xs.length = its.length := r.length
  have hy : zs.length = its2.length := r2.length
  have hsz : its.toArray.size + its2.toArray.size ≤ sizeLine := by rw [List.size_toArray, List.size_toArray]; omega
  have hlong : ¬ (!its.toArray.isEmpty && Builtin.List.listTooLong (its.toArray.size + its2.toArray.size)) = true := by
    rw [notLongL hsz, Bool.and_false]
    exact Bool.false_ne_true
  refine call_meets F.slot_list_extend ⟨_, e, rfl⟩ F.entry_list_extend (F.args_list_extend_2 _ _)
    (PySem.list_extend_tup l its.toArray n b its2.toArray n2 d2 sl2 hlong (by rw [List.size_toArray]; omega) (by omega)) ⟨e, e2, ?_⟩
  refine ⟨.non, _, I.lset (its' := its ++ its2) hH e (by simp) (r.append r2) ?_, rfl, q⟩
  rw [List.length_append]
  omega
theorem ref_extend {K : PySem.W.Frag} : RefMt K (fun x vs H Q => rExtend x vs H Q ∨ rExtT K x vs H Q) mExtend := fun p l x vx xs vs Qd Q w ce rx rxs h k => by
  unfold mExtend at h
  split at h
  · rename_i n y
    obtain ⟨v, rfl, r⟩ := rxs.one
    split at h
    · rename_i ys hy
      obtain ⟨a, rfl, us, h3, h4, f⟩ := put_ok (ys := []) (us := []) (vs := []) w ce rx hy
      split at h
      · rename_i zs
        cases r with
        | tup h1 r1 =>
          obtain ⟨e1, w1, c1⟩ := f _ _ (h4.append r1)
          exact .inr ⟨a, _, us, _, rfl, rfl, h3, h1.sq, by rw [← h4.len, ← r1.len]; exact h.1, k (.d .non) _ _ _ e1 w1 c1 RD.non h.2⟩
      · split at h
        · rename_i zs hz
          obtain ⟨b, ws, rfl, hb, rb⟩ := lstOf_ok ce r hz
          obtain ⟨e1, w1, c1⟩ := f _ _ (h4.append rb)
          exact .inl ⟨a, b, us, ws, rfl, rfl, h3, hb, by rw [← h4.len, ← rb.len]; exact h.1, k (.d .non) _ _ _ e1 w1 c1 RD.non h.2⟩
        · exact h.elim
    · exact h.elim
  · exact h.elim
theorem mt_ext {X : Cx} : MtR X "list.extend" (fun x vs H Q => rExtend x vs H Q ∨ rExtT X.K x vs H Q) := fun pins s σ H x xs v us Q I rx rv h => by
  rcases h with h | h
  · exact mt_extend pins s σ H x xs v us Q I rx rv h
  · exact mt_extendT pins s σ H x xs v us Q I rx rv h
/-! ### l[i] = v -/
section
variable {X : Cx} {W : WX} {o i : Expr} {wo wi : WE} {pos : Pos}
def noEx (_ : Ex) (_ : LS) : Prop := False
def kSub2 (d : P) (σ : SS) (x : P) (Q : SS → LS → Prop) (y : P) (l : LS) : Prop := match d, x, y with
  | .d v, .loc n, .d (.int k) => match l[n]? with
    | some (.lst ys) => ∃ j, ixN ys.length k = some j ∧ Q σ (l.set n (.lst (ys.set j v)))
    | _ => False
  | _, _, _ => False
def kSub1 (wi : WE) (d : P) (σ : SS) (Q : SS → LS → Prop) (x : P) (l : LS) : Prop := wi σ l (kSub2 d σ x Q) noEx
def gSubL (wo wi : WE) (d : P) (σ : SS) (l : LS) (Q : SS → LS → Prop) : Prop := wo σ l (kSub1 wi d σ Q) noEx
theorem LinkE.never {K : PySem.W.Frag} {p : Pt} {σ : St} {σd : SS} : LinkE K W p σ σd noEx := fun _ _ _ _ _ _ _ _ h => h.elim
theorem qg_subL (ho : QE X W o wo) (hi : QE X W i wi)
    (ha : ∀ v, assign (.Subscript o i pos) X.env v = (do
      let ov ← holding [v] (eval o X.env)
      let iv ← holding [v, ov] (eval i X.env)
      standAt pos
      holding [v, ov, iv] (setItem ov iv v)
      release [v, ov, iv] []) := by intro _; rfl) : QG X (.Subscript o i pos) (gSubL wo wi) := PG.imp (pg_sub ho hi set_list ha) fun v σ H Q ⟨p, σd, l, d, Qd, hH, R, r, hw, k⟩ => by
  subst hH
  refine cE_ok R hw LinkE.never fun x l1 vx p1 e1 R1 r1 q1 => cE_ok R1 q1 LinkE.never fun y l2 vy p2 e2 R2 r2 q2 => ?_
  unfold kSub2 at q2
  split at q2
  · rename_i z n j
    cases r2
    split at q2
    · rename_i ys hy
      obtain ⟨m, hm, q⟩ := q2
      obtain ⟨a, rfl, us, h3, h4, f⟩ := put_ok (ys := []) (us := []) (vs := []) R2.wf R2.ce (r1.mono e2) hy
      obtain ⟨e3, w3, c3⟩ := f _ _ (h4.set (RD.mono (e1.trans e2).hf r) m)
      exact ⟨a, us, j, m, rfl, rfl, h3, by rw [← h4.len]; exact hm, k (p2.put a _) σ σd _ ((e1.trans e2).trans e3) (R2.ext e3 w3 c3) q⟩
    · exact q2.elim
  · exact q2.elim
end
end QL
set_option Elab.async false
set_option linter.all false
set_option maxRecDepth 100000
set_option maxHeartbeats 4000000
/-! QL5: loops, comprehensions, defs and their calls. -/
namespace QL
open PySem L2

/-! ### what a loop walks -/
structure Items where
  xs : List D
  ok : LS → Prop
abbrev WI := SS → LS → (Items → LS → Prop) → EK → Prop
/-- a later point: what never changes stands, the cells are more -/
structure Lat (p p' : Pt) : Prop where
  hf : HF p p'
  pre : ∃ t, p'.rho = p.rho ++ t
theorem Ext.lat {p p' : Pt} (e : Ext p p') : Lat p p' := ⟨e.hf, e.pre⟩
theorem HF.trans {p p' p'' : Pt} (e : HF p p') (f : HF p' p'') : HF p p'' := ⟨fun a h => f.fm a (e.fm a h), fun b o h n => f.keepF b o (e.keepF b o h n) (e.fm b n), fun b vs h => f.tups b vs (e.tups b vs h)⟩
theorem Lat.trans {p p' p'' : Pt} (e : Lat p p') (f : Lat p' p'') : Lat p p'' := by
  obtain ⟨t, ht⟩ := e.pre
  obtain ⟨u, hu⟩ := f.pre
  exact ⟨e.hf.trans f.hf, t ++ u, by rw [hu, ht, List.append_assoc]⟩
/-- at each later point the iterator gives the items one by one -/
def ItOk (K : PySem.W.Frag) (p : Pt) (J : It) (I : Items) : Prop := ∀ p2 l2, Lat p p2 → WF p2 → Cells K p2 l2 → I.ok l2 → ∀ i : Nat,
  (I.xs.length ≤ i → J.stop i p2.H) ∧ (i < I.xs.length → J.go i p2.H) ∧
  (∀ x H' d, I.xs[i]? = some d → J.yld i p2.H x H' → ∃ p3, p3.H = H' ∧ Ext p2 p3 ∧ WF p3 ∧ Cells K p3 l2 ∧ RD K p3 d x)
def cI (K : PySem.W.Frag) (W : WX) (w : WI) : TI := fun σ H R => ∃ (p : Pt) (σd : SS) (l : LS) (Rd : Items → LS → Prop) (Ed : EK), p.H = H ∧ Rel K p σ σd l ∧ w σd l Rd Ed ∧
  (∀ I l' J p', Ext p p' → Rel K p' σ σd l' → ItOk K p' J I → Rd I l' → R J p'.H) ∧ LinkE K W p σ σd Ed
def QI (X : Cx) (W : WX) (tg e : Expr) (w : WI) : Prop := PI X tg e (cI X.K W w)
theorem PI.imp {X : Cx} {tg e : Expr} {t t' : TI} (h : PI X tg e t) (k : ∀ σ H Q, t' σ H Q → t σ H Q) : PI X tg e t' := ⟨fun pins s σ H R I q => h.run pins s σ H R I (k σ H R q)⟩
theorem cI_ok {K : PySem.W.Frag} {W : WX} {p : Pt} {σ : St} {σd : SS} {l : LS} {w : WI} {R : It → Hp → Prop} {Rd : Items → LS → Prop} {Ed : EK} (Rr : Rel K p σ σd l) (hw : w σd l Rd Ed) (lk : LinkE K W p σ σd Ed)
    (k : ∀ I l' J p', Ext p p' → Rel K p' σ σd l' → ItOk K p' J I → Rd I l' → R J p'.H) : cI K W w σ p.H R := ⟨p, σd, l, Rd, Ed, rfl, Rr, hw, k, lk⟩

theorem sqL_mono {K : PySem.W.Frag} {p p' : Pt} {a : Addr} {vs : List V} (e : Ext p p') (h : (p.F a ∧ Rd p.H a (.lst vs)) ∨ SqL K (fun _ => none) a vs) : SqL K p'.H a vs := (ScrAt.mono (K := K) e.hf h).sq
section
variable {X : Cx} {W : WX} {tg e : Expr} {we : WE} {ws : WA} {pos : Pos}
/-- over a list -/
def okAll (_ : LS) : Prop := True
def okOwn (n : Nat) (b : Addr) (xs : List D) (l : LS) : Prop := l[n]? = some (.own b xs)
def okCell (n : Nat) (xs : List D) (l : LS) : Prop := l[n]? = some (.lst xs)
def kLst (R : Items → LS → Prop) (x : P) (l : LS) : Prop := match x with
  | .d (.lst xs) => R ⟨xs, okAll⟩ l
  | .d (.scr xs) => R ⟨xs, okAll⟩ l
  | .loc n => match l[n]? with
    | some (.lst xs) => R ⟨xs, okCell n xs⟩ l
    | some (.frz xs) => R ⟨xs, okAll⟩ l
    | some (.own b xs) => R ⟨xs, okOwn n b xs⟩ l
    | _ => False
  | _ => False
def iLst (we : WE) (σ : SS) (l : LS) (R : Items → LS → Prop) (E : EK) : Prop := we σ l (kLst R) E
theorem it_list {K : PySem.W.Frag} {p : Pt} {a : Addr} {xs : List D} {vs : List V} {ok : LS → Prop} (hr : RDs K p xs vs) (h : ∀ p2 l2, Lat p p2 → WF p2 → Cells K p2 l2 → ok l2 → ∃ us, SqL K p2.H a us ∧ RDs K p2 xs us) : ItOk K p (Itl K a) ⟨xs, ok⟩ := fun p2 l2 e w c o i => by
  obtain ⟨us, h1, h2⟩ := h p2 l2 e w c o
  refine ⟨fun hi => ⟨us, h1, by rw [← h2.len]; exact hi⟩, fun hi => ?_, fun x H' d hd hy => ?_⟩
  · obtain ⟨v, g1, _⟩ := h2.get (List.getElem?_eq_getElem hi)
    exact ⟨us, v, h1, g1⟩
  · obtain ⟨v, g1, g2⟩ := h2.get hd
    obtain ⟨hH, hv⟩ := hy
    subst hH
    have e1 := hv us h1
    rw [g1] at e1
    cases e1
    exact ⟨p2, rfl, Ext.refl _, w, c, g2⟩
theorem qi_list (hl : QE X W e we) (hi : PI X tg e (iList X.K (cE X.K W we))) : QI X W tg e (iLst we) := PI.imp hi fun σ H R ⟨p, σd, l, Rd, Ed, hH, R0, hw, k, lk⟩ => by
  subst hH
  refine cE_ok R0 hw lk fun x l1 v p1 e1 R1 r1 q1 => ?_
  cases x with
  | d x =>
    cases x with
    | lst xs =>
      cases r1 with
      | lst h1 h2 => exact ⟨_, rfl, ⟨_, LstAt.sq (K := X.K) h1⟩, k ⟨xs, okAll⟩ l1 _ p1 e1 R1 (it_list h2 fun p2 l2 e2 w2 c2 _ => ⟨_, LstAt.sq (K := X.K) (h1.mono e2.hf), h2.mono e2.hf⟩) q1⟩
    | scr xs =>
      cases r1 with
      | scr h1 h2 => exact ⟨_, rfl, ⟨_, h1.sq⟩, k ⟨xs, okAll⟩ l1 _ p1 e1 R1 (it_list h2 fun p2 l2 e2 w2 c2 _ => ⟨_, (h1.mono e2.hf).sq, h2.mono e2.hf⟩) q1⟩
    | _ => exact q1.elim
  | loc n =>
    obtain ⟨a, h1, rfl⟩ := r1
    unfold kLst at q1
    dsimp only at q1
    cases ee : l1[n]? with
    | none => rw [ee] at q1; exact q1.elim
    | some c =>
      rw [ee] at q1
      obtain ⟨b, h2, h3⟩ := R1.ce.2 n c ee
      rw [h1] at h2
      cases h2
      cases c with
      | lst xs =>
        obtain ⟨nf, vs, h4, h5⟩ := h3
        refine ⟨a, rfl, ⟨vs, .inl (.inl h4)⟩, k ⟨xs, _⟩ l1 _ p1 e1 R1 (it_list h5 fun p2 l2 e2 w2 c2 o2 => ?_) q1⟩
        obtain ⟨b, g1, g2, us, g3, g4⟩ := c2.2 n _ o2
        obtain ⟨t, ht⟩ := e2.pre
        rw [ht, List.getElem?_append_left (List.getElem?_eq_some_iff.mp h1).1, h1] at g1
        cases g1
        exact ⟨us, .inl (.inl g3), g4⟩
      | frz xs =>
        obtain ⟨vs, h4, h5⟩ := h3
        exact ⟨a, rfl, ⟨vs, LstAt.sq (K := X.K) h4⟩, k ⟨xs, okAll⟩ l1 _ p1 e1 R1 (it_list h5 fun p2 l2 e2 w2 c2 _ => ⟨_, LstAt.sq (K := X.K) (h4.mono e2.hf), h5.mono e2.hf⟩) q1⟩
      | dk _ => exact q1.elim
      | dt _ => exact q1.elim
      | fz _ => exact q1.elim
      | own b0 xs =>
        obtain ⟨_, nf, vs, h4, h5⟩ := h3
        refine ⟨a, rfl, ⟨vs, .inl (.inl h4)⟩, k ⟨xs, _⟩ l1 _ p1 e1 R1 (it_list h5 fun p2 l2 e2 w2 c2 o2 => ?_) q1⟩
        obtain ⟨b, g1, _, g2, us, g3, g4⟩ := c2.2 n _ o2
        obtain ⟨t, ht⟩ := e2.pre
        rw [ht, List.getElem?_append_left (List.getElem?_eq_some_iff.mp h1).1, h1] at g1
        cases g1
        exact ⟨us, .inl (.inl g3), g4⟩
      | dkc _ => exact q1.elim
      | dtc _ => exact q1.elim
      | lsc _ => exact q1.elim
      | ins _ _ _ => exact q1.elim
  | exc _ _ _ _ => exact q1.elim
def kTp (R : Items → LS → Prop) (x : P) (l : LS) : Prop := match x with
  | .d (.tup xs) => R ⟨xs, okAll⟩ l
  | .d (.ktu xs) => R ⟨xs, okAll⟩ l
  | .d (.tux xs) => R ⟨xs, okAll⟩ l
  | _ => False
def iTp (we : WE) (σ : SS) (l : LS) (R : Items → LS → Prop) (E : EK) : Prop := we σ l (kTp R) E
theorem qi_tup (hi : PI X tg e (iTup X.K (cE X.K W we))) : QI X W tg e (iTp we) := PI.imp hi fun σ H R ⟨p, σd, l, Rd, Ed, hH, R0, hw, k, lk⟩ => by
  subst hH
  refine cE_ok R0 hw lk fun x l1 v p1 e1 R1 r1 q1 => ?_
  cases x with
  | d x =>
    cases x with
    | tup xs =>
      cases r1 with
      | @tup a _ vs h1 h2 =>
        refine ⟨_, rfl, ⟨_, h1.sq⟩, k ⟨xs, okAll⟩ l1 _ p1 e1 R1 (fun p2 l2 e2 w2 c2 _ i => ?_) q1⟩
        have g1 := (h1.mono e2.hf).sq
        have g2 := h2.mono e2.hf
        refine ⟨fun hi => ⟨vs, g1, by rw [← g2.len]; exact hi⟩, fun hi => ?_, fun x H' d hd hy => ?_⟩
        · obtain ⟨v, z1, _⟩ := g2.get (List.getElem?_eq_getElem hi)
          exact ⟨vs, v, g1, z1⟩
        · obtain ⟨v, z1, z2⟩ := g2.get hd
          obtain ⟨hH, hv⟩ := hy
          subst hH
          have e1 := hv vs g1
          rw [z1] at e1
          cases e1
          exact ⟨p2, rfl, Ext.refl _, w2, c2, z2⟩
    | ktu xs =>
      cases r1 with
      | @ktu a _ vs h1 h2 =>
        refine ⟨_, rfl, ⟨_, seqT_empty h1⟩, k ⟨xs, okAll⟩ l1 _ p1 e1 R1 (fun p2 l2 e2 w2 c2 _ i => ?_) q1⟩
        have g1 : SqT X.K p2.H a vs := seqT_empty h1
        have g2 := h2.mono e2.hf
        refine ⟨fun hi => ⟨vs, g1, by rw [← g2.len]; exact hi⟩, fun hi => ?_, fun x H' d hd hy => ?_⟩
        · obtain ⟨v, z1, _⟩ := g2.get (List.getElem?_eq_getElem hi)
          exact ⟨vs, v, g1, z1⟩
        · obtain ⟨v, z1, z2⟩ := g2.get hd
          obtain ⟨hH, hv⟩ := hy
          subst hH
          have e1 := hv vs g1
          rw [z1] at e1
          cases e1
          exact ⟨p2, rfl, Ext.refl _, w2, c2, z2⟩
    | tux xs =>
      cases r1 with
      | @tux a ob _ vs hF hx hn h2 =>
        refine ⟨_, rfl, ⟨_, .inl (.inr ⟨_, hx⟩)⟩, k ⟨xs, okAll⟩ l1 _ p1 e1 R1 (fun p2 l2 e2 w2 c2 _ i => ?_) q1⟩
        have g1 : SqT X.K p2.H a vs := .inl (.inr ⟨_, e2.hf.keepF _ _ hx hF⟩)
        have g2 := h2.mono e2.hf
        refine ⟨fun hi => ⟨vs, g1, by rw [← g2.len]; exact hi⟩, fun hi => ?_, fun x H' d hd hy => ?_⟩
        · obtain ⟨v, z1, _⟩ := g2.get (List.getElem?_eq_getElem hi)
          exact ⟨vs, v, g1, z1⟩
        · obtain ⟨v, z1, z2⟩ := g2.get hd
          obtain ⟨hH, hv⟩ := hy
          subst hH
          have e1 := hv vs g1
          rw [z1] at e1
          cases e1
          exact ⟨p2, rfl, Ext.refl _, w2, c2, z2⟩
    | _ => exact q1.elim
  | _ => exact q1.elim
def rangeD (lo : Int) (n : Nat) : List D := (List.range n).map fun i => D.int (lo + (i : Nat))
theorem rangeD_len {lo : Int} {n : Nat} : (rangeD lo n).length = n := by simp [rangeD]
theorem rangeD_get {lo : Int} {n i : Nat} {d : D} (h : (rangeD lo n)[i]? = some d) : i < n ∧ d = .int (lo + (i : Nat)) := by
  unfold rangeD at h
  rw [List.getElem?_map] at h
  by_cases hi : i < n
  · rw [List.getElem?_range hi] at h
    exact ⟨hi, by simpa using h.symm⟩
  · rw [List.getElem?_eq_none (by simpa using hi)] at h
    cases h
theorem it_range {K : PySem.W.Frag} {p : Pt} {lo : Int} {n : Nat} : ItOk K p (Itr lo n) ⟨rangeD lo n, okAll⟩ := fun p2 l2 e w c o i => by
  refine ⟨fun hi => by show n ≤ i; simpa [rangeD] using hi, fun hi => by show i < n; simpa [rangeD] using hi, fun x H' d hd hy => ?_⟩
  obtain ⟨hH, rfl⟩ := hy
  obtain ⟨_, rfl⟩ := rangeD_get hd
  exact ⟨p2, hH.symm, Ext.refl _, w, c, .int _⟩
def kRg1 (R : Items → LS → Prop) (xs : List P) (l : LS) : Prop := match xs with
  | [.d (.int j)] => -(2 ^ 62) ≤ j ∧ j < 2 ^ 62 ∧ R ⟨rangeD 0 j.toNat, okAll⟩ l
  | _ => False
def iRg1 (ws : WA) (σ : SS) (l : LS) (R : Items → LS → Prop) (E : EK) : Prop := ws σ l (kRg1 R) E
theorem qi_range1 (hi : PI X tg e (iRng1 (cA X.K W ws))) : QI X W tg e (iRg1 ws) := PI.imp hi fun σ H R ⟨p, σd, l, Rd, Ed, hH, R0, hw, k, lk⟩ => by
  subst hH
  refine cA_ok R0 hw lk fun xs l1 vs p1 e1 R1 r1 q1 => ?_
  unfold kRg1 at q1
  split at q1
  · obtain ⟨v, rfl, r⟩ := r1.one
    cases r
    exact ⟨_, rfl, q1.1, q1.2.1, k _ l1 _ p1 e1 R1 it_range q1.2.2⟩
  · exact q1.elim
def kRg2 (R : Items → LS → Prop) (xs : List P) (l : LS) : Prop := match xs with
  | [.d (.int i), .d (.int j)] => (-(2 ^ 62) ≤ i ∧ i < 2 ^ 62 ∧ -(2 ^ 62) ≤ j ∧ j < 2 ^ 62) ∧ R ⟨rangeD i (j - i).toNat, okAll⟩ l
  | _ => False
def iRg2 (ws : WA) (σ : SS) (l : LS) (R : Items → LS → Prop) (E : EK) : Prop := ws σ l (kRg2 R) E
theorem qi_range2 (hi : PI X tg e (iRng2 (cA X.K W ws))) : QI X W tg e (iRg2 ws) := PI.imp hi fun σ H R ⟨p, σd, l, Rd, Ed, hH, R0, hw, k, lk⟩ => by
  subst hH
  refine cA_ok R0 hw lk fun xs l1 vs p1 e1 R1 r1 q1 => ?_
  unfold kRg2 at q1
  split at q1
  · obtain ⟨v, u, rfl, r, r2⟩ := r1.two
    cases r; cases r2
    exact ⟨_, _, rfl, q1.1, k _ l1 _ p1 e1 R1 it_range q1.2⟩
  · exact q1.elim
/-- range(a, b, -1) and the like -/
def rangeC (lo c : Int) (n : Nat) : List D := (List.range n).map fun i => D.int (lo + (i : Nat) * c)
theorem rangeC_get {lo c : Int} {n i : Nat} {d : D} (h : (rangeC lo c n)[i]? = some d) : i < n ∧ d = .int (lo + (i : Nat) * c) := by
  unfold rangeC at h
  rw [List.getElem?_map] at h
  by_cases hi : i < n
  · rw [List.getElem?_range hi] at h
    exact ⟨hi, by simpa using h.symm⟩
  · rw [List.getElem?_eq_none (by simpa using hi)] at h
    cases h
theorem rangeC_len {lo c : Int} {n : Nat} : (rangeC lo c n).length = n := by simp [rangeC]
theorem it_rangeC {K : PySem.W.Frag} {p : Pt} {lo c : Int} {n : Nat} : ItOk K p (Itc lo c n) ⟨rangeC lo c n, okAll⟩ := fun p2 l2 e w ce o i => by
  refine ⟨fun hi => by show n ≤ i; simpa [rangeC] using hi, fun hi => by show i < n; simpa [rangeC] using hi, fun x H' d hd hy => ?_⟩
  obtain ⟨hH, rfl⟩ := hy
  obtain ⟨_, rfl⟩ := rangeC_get hd
  exact ⟨p2, hH.symm, Ext.refl _, w, ce, .int _⟩
def kRg3 (R : Items → LS → Prop) (xs : List P) (l : LS) : Prop := match xs with
  | [.d (.int i), .d (.int j), .d (.int c)] => ∃ n, RgC i j c n ∧ R ⟨rangeC i c n, okAll⟩ l
  | _ => False
def iRg3 (ws : WA) (σ : SS) (l : LS) (R : Items → LS → Prop) (E : EK) : Prop := ws σ l (kRg3 R) E
theorem qi_range3 (hi : PI X tg e (iRng3 (cA X.K W ws))) : QI X W tg e (iRg3 ws) := PI.imp hi fun σ H R ⟨p, σd, l, Rd, Ed, hH, R0, hw, k, lk⟩ => by
  subst hH
  refine cA_ok R0 hw lk fun xs l1 vs p1 e1 R1 r1 q1 => ?_
  unfold kRg3 at q1
  split at q1
  · obtain ⟨n, h1, h2⟩ := q1
    cases r1 with
    | cons r t =>
      obtain ⟨v, u, rfl, r2, r3⟩ := RPs.two t
      cases r; cases r2; cases r3
      exact ⟨_, _, _, n, rfl, h1, k _ l1 _ p1 e1 R1 it_rangeC h2⟩
  · exact q1.elim
/-- over the signs of a text -/
def signsD (z : Str) : List D := z.cps.toList.map fun c => D.str ⟨#[c]⟩
def kSt (R : Items → LS → Prop) (x : P) (l : LS) : Prop := match x with
  | .d (.str z) => R ⟨signsD z, okAll⟩ l
  | _ => False
def iSt (we : WE) (σ : SS) (l : LS) (R : Items → LS → Prop) (E : EK) : Prop := we σ l (kSt R) E
theorem qi_str (hi : PI X tg e (iStr (cE X.K W we))) : QI X W tg e (iSt we) := PI.imp hi fun σ H R ⟨p, σd, l, Rd, Ed, hH, R0, hw, k, lk⟩ => by
  subst hH
  refine cE_ok R0 hw lk fun x l1 v p1 e1 R1 r1 q1 => ?_
  unfold kSt at q1
  split at q1
  · rename_i z
    cases r1
    refine ⟨z, rfl, k ⟨signsD z, okAll⟩ l1 _ p1 e1 R1 (fun p2 l2 e2 w2 c2 _ i => ?_) q1⟩
    refine ⟨fun hi => by show z.cps.size ≤ i; simpa [signsD] using hi, fun hi => by show i < z.cps.size; simpa [signsD] using hi, fun x H' d hd hy => ?_⟩
    obtain ⟨hH, c, hc, rfl⟩ := hy
    unfold signsD at hd
    rw [List.getElem?_map, Array.getElem?_toList, hc] at hd
    cases hd
    exact ⟨p2, hH.symm, Ext.refl _, w2, c2, .str _⟩
  · exact q1.elim
end

/-! ### for -/
def kTurn (tb : WS) (D : ED) (N : SS → LS → Prop) (σ : SS) (l : LS) : Prop := tb { D with nx := N, ct := N, bk := D.nx } σ l
def loopP (I : Items) (g : WG) (tb : WS) (D : ED) (σ : SS) (l : LS) : Prop := ∃ Iv : Nat → SS → LS → Prop, Iv 0 σ l ∧ (∀ i σ l, Iv i σ l → I.ok l) ∧
  (∀ i x σ l, I.xs[i]? = some x → Iv i σ l → g (.d x) σ l (kTurn tb D (Iv (i + 1)))) ∧ ∀ σ l, Iv I.xs.length σ l → D.nx σ l
def kFor (g : WG) (tb : WS) (D : ED) (σ : SS) (I : Items) (l : LS) : Prop := loopP I g tb D σ l
def wFor (wi : WI) (g : WG) (tb : WS) (D : ED) (σ : SS) (l : LS) : Prop := wi σ l (kFor g tb D σ) (exK D σ)
section
variable {X : Cx} {W : WX}
theorem qs_for {tg iter : Expr} {body : List Stmt} {wi : WI} {g : WG} {tb : WS} {pos : Pos} (hp : PassesOwn (model X.prog X.w) X.A X.env X.xe) (hc : X.calm = true) (hi : QI X W tg iter wi) (hg : QG X tg g) (hb : QSs X W body tb)
    (hs : ∀ x, foldedSetIterable iter X.env x = pure x := by intro _; rfl) : QS X W (.For tg iter body [] pos) (wFor wi g tb) := PS.imp (ps_for hp hc hi hg hb hs) fun D σ H ⟨p, σd, l, Dd, hH, R, hw, k⟩ => by
  subst hH
  refine cI_ok R hw k.link fun I l1 J p1 e1 R1 it q1 => ?_
  obtain ⟨Iv, h0, hok, hturn, hend⟩ := q1
  refine ⟨fun i m σ' H' => m = I.xs.length - i ∧ i ≤ I.xs.length ∧ ∃ p2 σd2 l2, p2.H = H' ∧ Ext p1 p2 ∧ Rel X.K p2 σ' σd2 l2 ∧ Iv i σd2 l2, ⟨_, rfl, Nat.zero_le _, p1, σd, l1, rfl, Ext.refl _, R1, h0⟩, ?_⟩
  rintro i m σ2 H2 ⟨rfl, hi, p2, σd2, l2, rfl, e2, R2, q2⟩
  obtain ⟨i1, i2, i3⟩ := it p2 l2 e2.lat R2.wf R2.ce (hok _ _ _ q2) i
  by_cases hlt : i < I.xs.length
  · refine .inr ⟨i2 hlt, fun σ' H' => ∃ p2 σd2 l2, p2.H = H' ∧ Ext p1 p2 ∧ Rel X.K p2 σ' σd2 l2 ∧ Iv (i + 1) σd2 l2, fun σ' H' hN => ⟨I.xs.length - (i + 1), by omega, rfl, hlt, hN⟩, fun x H' hy => ?_⟩
    obtain ⟨p3, rfl, e3, w3, c3, r3⟩ := i3 x H' _ (List.getElem?_eq_getElem hlt) hy
    have R3 := R2.ext e3 w3 c3
    refine cG_ok (d := .d _) R3 r3 (hturn i _ σd2 l2 (List.getElem?_eq_getElem hlt) q2) fun p4 σ4 σd4 l4 e4 R4 q4 => cS_ok R4 q4 ?_
    have E4 := ((e1.trans e2).trans e3).trans e4
    have F4 := (e2.trans e3).trans e4
    exact ⟨fun p' σ' σd' l' e R q => ⟨p', σd', l', rfl, F4.trans e, R, q⟩, fun p' a b c e => k.nx p' a b c (E4.trans e), fun p' σ' σd' l' e R q => ⟨p', σd', l', rfl, F4.trans e, R, q⟩,
      fun p' a b c e => k.rt p' a b c (E4.trans e), fun p' a b c d f g e => k.ex p' a b c d f g (E4.trans e)⟩
  · have : i = I.xs.length := by omega
    subst this
    exact .inl ⟨i1 (Nat.le_refl _), k.nx p2 σ2 σd2 l2 (e1.trans e2) R2 (hend _ _ q2)⟩
/-! ### while -/
def kLess (Iv : Nat → SS → LS → Prop) (m : Nat) (σ : SS) (l : LS) : Prop := ∃ m', m' < m ∧ Iv m' σ l
def kWh (tb : WS) (D : ED) (N : SS → LS → Prop) (σ : SS) (b : Bool) (l : LS) : Prop := if b = true then tb { D with nx := N, ct := N, bk := D.nx } σ l else D.nx σ l
def whileP (wt : WT) (tb : WS) (D : ED) (σ : SS) (l : LS) : Prop := ∃ Iv : Nat → SS → LS → Prop, (∃ m, Iv m σ l) ∧ ∀ m σ l, Iv m σ l → wt σ l (kWh tb D (kLess Iv m) σ) (exK D σ)
theorem qs_while {c : Expr} {body : List Stmt} {wt : WT} {tb : WS} {pos : Pos} (hp : PassesOwn (model X.prog X.w) X.A X.env X.xe) (hc : QT X W c wt) (hb : QSs X W body tb) : QS X W (.While c body [] pos) (whileP wt tb) := PS.imp (ps_while hp hc hb) fun D σ H ⟨p, σd, l, Dd, hH, R, hw, k⟩ => by
  subst hH
  obtain ⟨Iv, ⟨m0, h0⟩, turn⟩ := hw
  refine ⟨fun m σ' H' => ∃ p2 σd2 l2, p2.H = H' ∧ Ext p p2 ∧ Rel X.K p2 σ' σd2 l2 ∧ Iv m σd2 l2, ⟨m0, p, σd, l, rfl, Ext.refl _, R, h0⟩, ?_⟩
  rintro m σ2 H2 ⟨p2, σd2, l2, rfl, e2, R2, q2⟩
  refine cT_ok R2 (turn m σd2 l2 q2) (k.mono e2).link fun b l3 p3 e3 R3 q3 => ?_
  have E3 := e2.trans e3
  cases b with
  | true =>
    unfold kWh at q3
    rw [if_pos rfl] at q3 ⊢
    refine ⟨fun σ' H' => ∃ m', m' < m ∧ ∃ p2 σd2 l2, p2.H = H' ∧ Ext p p2 ∧ Rel X.K p2 σ' σd2 l2 ∧ Iv m' σd2 l2, fun σ' H' h => h, cS_ok R3 q3 ?_⟩
    exact ⟨fun p' σ' σd' l' e R ⟨m', hm, q⟩ => ⟨m', hm, p', σd', l', rfl, E3.trans e, R, q⟩, fun p' a b c e => k.nx p' a b c (E3.trans e), fun p' σ' σd' l' e R ⟨m', hm, q⟩ => ⟨m', hm, p', σd', l', rfl, E3.trans e, R, q⟩,
      fun p' a b c e => k.rt p' a b c (E3.trans e), fun p' a b c d f g e => k.ex p' a b c d f g (E3.trans e)⟩
  | false =>
    unfold kWh at q3
    rw [if_neg Bool.false_ne_true] at q3 ⊢
    exact k.nx p3 σ2 σd2 l3 E3 R3 q3
end

/-! ### list comprehensions -/
def wipeD (σ : SS) : List Nat → SS
  | [] => σ
  | v :: vs => (wipeD σ vs).set v none
theorem Slots.wipe {K : PySem.W.Frag} {p : Pt} {σ : St} {σd : SS} (h : Slots K p σd σ) : ∀ vs : List Nat, Slots K p (wipeD σd vs) (wipe σ vs)
  | [] => h
  | v :: vs => (Slots.wipe h vs).setNone
/-- I the invariant by the turn, what is made so far, the cells -/
def kEl (N : List D → LS → Prop) (acc : List D) (y : P) (l : LS) : Prop := match y with
  | .d y => N (acc ++ [y]) l
  | _ => False
def kTs (te : WE) (N : List D → LS → Prop) (acc : List D) (σ : SS) (b : Bool) (l : LS) : Prop := if b = true then te σ l (kEl N acc) noEx else N acc l
def kLcT (tt : WT) (te : WE) (vs : List Nat) (σ : SS) (N : List D → LS → Prop) (acc : List D) (σ2 : SS) (l : LS) : Prop := wipeD σ2 vs = wipeD σ vs ∧ tt σ2 l (kTs te N acc σ2) noEx
def lcP (I : Items) (g : WG) (tt : WT) (te : WE) (vs : List Nat) (f : Fresh) (σ : SS) (l : LS) (Q : P → LS → Prop) : Prop := ∃ Iv : Nat → List D → LS → Prop, Iv 0 [] l ∧ (∀ i acc l, Iv i acc l → I.ok l ∧ acc.length < sizeLine) ∧
  (∀ i x acc l, I.xs[i]? = some x → Iv i acc l → g (.d x) (wipeD σ vs) l (kLcT tt te vs σ (Iv (i + 1)) acc)) ∧ ∀ acc l, Iv I.xs.length acc l → freshL f acc l Q
def kLc (g : WG) (tt : WT) (te : WE) (vs : List Nat) (f : Fresh) (σ : SS) (Q : P → LS → Prop) (I : Items) (l : LS) : Prop := lcP I g tt te vs f σ l Q
def wLc (wi : WI) (g : WG) (tt : WT) (te : WE) (vs : List Nat) (f : Fresh) (σ : SS) (l : LS) (Q : P → LS → Prop) (E : EK) : Prop := wi σ l (kLc g tt te vs f σ Q) E
abbrev W0 : WX := fun _ _ _ _ => False
def QTs (X : Cx) (W : WX) (es : List Expr) (w : WT) : Prop := PTs X es (cT X.K W w)
def wYes (_ : SS) (l : LS) (Q : Bool → LS → Prop) (_ : EK) : Prop := Q true l
theorem qts_nil {X : Cx} {W : WX} : QTs X W [] wYes := by
  have h : PTs X [] tYes := pts_nil
  exact ⟨fun pins s σ H Q I ⟨p, σd, l, Qd, Ed, hH, R, hw, k, lk⟩ => h.run pins s σ H Q I (by subst hH; exact k true l p (Ext.refl p) R hw)⟩
theorem qts_one {X : Cx} {W : WX} {c : Expr} {w : WT} (h : QT X W c w) : QTs X W [c] w := pts_one h
/-! targets that store in some slots alone -/
def cGv (K : PySem.W.Frag) (vs : List Nat) (w : WG) : TG := fun v σ H Q => ∃ (p : Pt) (σd : SS) (l : LS) (d : P) (Qd : SS → LS → Prop), p.H = H ∧ Rel K p σ σd l ∧ RP K p d v ∧ w d σd l Qd ∧
  (∀ p' σ' σd' l', Ext p p' → Rel K p' σ' σd' l' → σ'.length = σ.length → (∀ i, i ∉ vs → σ'[i]? = σ[i]?) → Qd σd' l' → Q σ' p'.H)
def cGvs (K : PySem.W.Frag) (vs : List Nat) (w : WGs) : TGs := fun us σ H Q => ∃ (p : Pt) (σd : SS) (l : LS) (ds : List D) (Qd : SS → LS → Prop), p.H = H ∧ Rel K p σ σd l ∧ RDs K p ds us ∧ w ds σd l Qd ∧
  (∀ p' σ' σd' l', Ext p p' → Rel K p' σ' σd' l' → σ'.length = σ.length → (∀ i, i ∉ vs → σ'[i]? = σ[i]?) → Qd σd' l' → Q σ' p'.H)
def QGv (X : Cx) (vs : List Nat) (tg : Expr) (w : WG) : Prop := PG X tg (cGv X.K vs w)
def QGvs (X : Cx) (vs : List Nat) (ts : List Expr) (w : WGs) : Prop := PGs X ts (cGvs X.K vs w)
section
variable {X : Cx} {vs : List Nat} {e : Expr} {pos : Pos}
theorem qgv_name {i : Nat} {x : Str} (hv : i ∈ vs) (hN : X.N.Nodup) (hi : X.N[i]? = some x) (hx : Loc X.env.scope x) (hf : X.fn x = true ∨ X.env.scope.names.lookup x = some .local := by first | exact .inl rfl | exact .inr rfl | assumption) : QGv X vs (.Name x pos) (gN i) :=
  PG.imp (pg_name hN hi hx hf) fun v σ H Q ⟨p, σd, l, d, Qd, hH, R, r, hw, k⟩ => by
    subst hH
    exact k p _ _ l (Ext.refl p) (R.set r) (by simp) (fun j hj => List.getElem?_set_ne fun z => hj (by rw [← z]; exact hv)) hw
theorem qgvs_nil : QGvs X vs [] gE := PGs.imp pgs_nil fun vs σ H Q ⟨p, σd, l, ds, Qd, hH, R, r, hw, k⟩ => by
  subst hH
  cases r with
  | nil => exact ⟨rfl, k p _ _ l (Ext.refl p) R rfl (fun _ _ => rfl) hw⟩
  | cons _ _ => cases hw
theorem qgvs_cons {es : List Expr} {g : WG} {gs : WGs} (h1 : QGv X vs e g) (h2 : QGvs X vs es gs) (hs : (assignEach (e :: es) X.env).map (·.2) = assign e X.env :: (assignEach es X.env).map (·.2) := by rfl) : QGvs X vs (e :: es) (gC g gs) :=
  PGs.imp (pgs_cons h1 h2 hs) fun us σ H Q ⟨p, σd, l, ds, Qd, hH, R, r, hw, k⟩ => by
    subst hH
    cases r with
    | nil => cases hw
    | cons h r => exact ⟨_, _, rfl, p, σd, l, .d _, _, rfl, R, h, hw, fun p1 σ1 σd1 l1 e1 R1 z1 z2 q1 => ⟨p1, σd1, l1, _, _, rfl, R1, r.mono e1.hf, q1, fun p2 σ2 σd2 l2 e2 R2 y1 y2 q2 => k p2 σ2 σd2 l2 (e1.trans e2) R2 (y1.trans z1) (fun i hi => (y2 i hi).trans (z2 i hi)) q2⟩⟩
theorem qgv_tup {es : List Expr} {k : Nat} {gs : WGs} {n : Nat} (hc : X.calm = true) (h : QGvs X vs es gs) (hn : (assignEach es X.env).length = n := by rfl) (hst : (assignEach es X.env).findIdx? (·.1) = none := by rfl) : QGv X vs (.Tuple es k pos) (gT n gs) :=
  PG.imp (pg_tup hc h hn hst) fun v σ H Q ⟨p, σd, l, d, Qd, hH, R, r, hw, k⟩ => by
    subst hH
    cases d with
    | d d =>
      cases d with
      | tup ds =>
        cases r with
        | tup h1 h2 => exact ⟨_, _, rfl, h1.sq, h2.len.symm.trans hw.1, p, σd, l, ds, Qd, rfl, R, h2, hw.2, k⟩
      | _ => cases hw
    | _ => cases hw
end
theorem wipe_same {σ σ' : St} (hl : σ'.length = σ.length) : ∀ (vs ws : List Nat), (∀ i, i ∉ vs → i ∉ ws → σ'[i]? = σ[i]?) → (∀ i, i ∉ ws → (wipe σ' vs)[i]? = (wipe σ vs)[i]?)
  | [], ws, h => fun i hi => h i (by simp) hi
  | v :: vs, ws, h => fun i hi => by
    have ih := wipe_same hl vs (v :: ws) (fun i a b => by
      simp only [List.mem_cons, not_or] at b
      exact h i (by simp only [List.mem_cons, not_or]; exact ⟨b.1, a⟩) b.2)
    show ((wipe σ' vs).set v none)[i]? = ((wipe σ vs).set v none)[i]?
    have l1 : (wipe σ' vs).length = (wipe σ vs).length := by rw [wipe_length, wipe_length, hl]
    by_cases e : v = i
    · subst e
      by_cases hv : v < (wipe σ vs).length
      · rw [List.getElem?_set_self hv, List.getElem?_set_self (by rw [l1]; exact hv)]
      · rw [List.getElem?_eq_none (by rw [List.length_set, l1]; omega), List.getElem?_eq_none (by rw [List.length_set]; omega)]
    · rw [List.getElem?_set_ne e, List.getElem?_set_ne e]
      exact ih i (by simp only [List.mem_cons, not_or]; exact ⟨fun z => e z.symm, hi⟩)
theorem wipe_idem {σ σ' : St} {vs : List Nat} (hl : σ'.length = (wipe σ vs).length) (h : ∀ i, i ∉ vs → σ'[i]? = (wipe σ vs)[i]?) : wipe σ' vs = wipe σ vs := by
  apply List.ext_getElem?
  intro i
  have hl' : σ'.length = σ.length := by rw [hl, wipe_length]
  have h1 := wipe_same (σ := σ) (σ' := σ') hl' vs [] (fun i a _ => by
    rw [h i a]
    exact wipe_out a) i (by simp)
  exact h1
/-- the list that grows -/
structure Grow (K : PySem.W.Frag) (p1 p : Pt) (b0 : Addr) (acc : List D) (l : LS) : Prop where
  e : Ext p1 p
  w : WF p
  c : Cells K p l
  nF : ¬ p.F b0
  nr : b0 ∉ p.rho
  at_ : ∃ vs, p.H b0 = some (.lst vs) ∧ RDs K p acc vs
theorem Grow.start {K : PySem.W.Frag} {p1 : Pt} {b0 : Addr} {l : LS} (w : WF p1) (c : Cells K p1 l) (h : p1.H b0 = none) : Grow K p1 ⟨upd p1.H b0 (.lst []), p1.rho, p1.F⟩ b0 [] l := by
  have e : Ext p1 ⟨upd p1.H b0 (.lst []), p1.rho, p1.F⟩ := ⟨⟨[], by simp⟩, fun _ z => .inl z, fun _ z => z, fun _ z => .inl z, fun b o z _ => by
    show upd _ _ _ _ = _
    rw [upd_ne (ne_of_none z h)]; exact z, fun b o z _ => by
    show upd _ _ _ _ = _
    rw [upd_ne (ne_of_none z h)]; exact z, fun b o z => upd_some z, fun b o z => by
    show upd _ _ _ _ = _
    rw [upd_ne (ne_of_none z h)]; exact z⟩
  refine ⟨e, ⟨w.nd, fun a m => ?_, fun a m => ?_⟩, ⟨c.1, fun i d q => ?_⟩, w.nF h, w.nrho h, [], upd_same, .nil⟩
  · obtain ⟨o, z⟩ := w.hs a m
    exact upd_some z
  · obtain ⟨o, z⟩ := w.fs a m
    exact upd_some z
  · obtain ⟨b, h1, h2⟩ := c.2 i d q
    exact ⟨b, h1, h2.mono e (by show upd _ _ _ _ = _; rw [upd_ne fun z => w.nrho h (by rw [← z]; exact List.mem_of_getElem? h1)]) fun z => z⟩
theorem Grow.go {K : PySem.W.Frag} {p1 p p' : Pt} {b0 : Addr} {acc : List D} {l l' : LS} (g : Grow K p1 p b0 acc l) (e : Ext p p') (w : WF p') (c : Cells K p' l') : Grow K p1 p' b0 acc l' := by
  obtain ⟨vs, h1, h2⟩ := g.at_
  refine ⟨g.e.trans e, w, c, fun z => ?_, fun z => ?_, vs, e.keep _ _ h1 g.nr, h2.mono e.hf⟩
  · rcases e.fn b0 z with z | z | z
    · exact g.nF z
    · rw [h1] at z; cases z
    · exact g.nr z
  · rcases e.new b0 z with z | z
    · exact g.nr z
    · rw [h1] at z; cases z
theorem Grow.add {K : PySem.W.Frag} {p1 p : Pt} {b0 : Addr} {acc : List QL.D} {l : LS} {y : QL.D} {v : V} (g : Grow K p1 p b0 acc l) (n1 : p1.H b0 = none) (r : RD K p y v) : ∃ vs, p.H b0 = some (.lst vs) ∧ vs.length = acc.length ∧
    Grow K p1 ⟨upd p.H b0 (.lst (vs ++ [v])), p.rho, p.F⟩ b0 (acc ++ [y]) l := by
  obtain ⟨vs, h1, h2⟩ := g.at_
  have hf : HF p ⟨upd p.H b0 (.lst (vs ++ [v])), p.rho, p.F⟩ := ⟨fun _ z => z, fun b o z f => by
    show upd _ _ _ _ = _
    rw [upd_ne fun q => g.nF (by rw [← q]; exact f)]; exact z, fun b u z => by
    show upd _ _ _ _ = _
    rw [upd_ne fun q => by rw [q, h1] at z; cases z]; exact z⟩
  refine ⟨vs, h1, h2.len.symm, ⟨g.e.pre, g.e.new, g.e.fm, g.e.fn, fun b o z n => ?_, fun b o z n => ?_, fun b o z => ?_, fun b u z => by
    show upd _ _ _ _ = _
    rw [upd_ne (ne_of_none z n1)]; exact g.e.tups b u z⟩, ⟨g.w.nd, fun a m => ?_, fun a m => ?_⟩, ⟨g.c.1, fun i d q => ?_⟩, g.nF, g.nr, _, upd_same, (h2.append (.cons r .nil)).mono hf⟩
  · show upd _ _ _ _ = _
    rw [upd_ne (ne_of_none z n1)]; exact g.e.keep b o z n
  · show upd _ _ _ _ = _
    rw [upd_ne (ne_of_none z n1)]; exact g.e.keepF b o z n
  · obtain ⟨o', z'⟩ := g.e.there b o z
    exact upd_some z'
  · obtain ⟨o, z⟩ := g.w.hs a m
    exact upd_some z
  · obtain ⟨o, z⟩ := g.w.fs a m
    exact upd_some z
  · obtain ⟨b, q1, q2⟩ := g.c.2 i d q
    have nb : b ≠ b0 := fun z => g.nr (by rw [← z]; exact List.mem_of_getElem? q1)
    refine ⟨b, q1, ?_⟩
    exact q2.hf hf (by show upd _ _ _ _ = _; rw [upd_ne nb]) fun z => z
theorem Grow.end_ {K : PySem.W.Frag} {p1 p : Pt} {b0 : Addr} {acc : List QL.D} {l : LS} {f : Fresh} {Qd : P → LS → Prop} {Q : VK} (g : Grow K p1 p b0 acc l) (n1 : p1.H b0 = none) (q : freshL f acc l Qd)
    (k : ∀ d l' v p', Ext p1 p' → WF p' → Cells K p' l' → RP K p' d v → Qd d l' → Q v p'.H) : Q (.ref b0) p.H := by
  obtain ⟨vs, h1, h2⟩ := g.at_
  cases f with
  | frz =>
    have hf : HF p ⟨p.H, p.rho, fun b => p.F b ∨ b = b0⟩ := ⟨fun _ z => .inl z, fun b o z f => z, fun _ _ z => z⟩
    refine k (.d (.lst acc)) l (.ref b0) ⟨p.H, p.rho, fun b => p.F b ∨ b = b0⟩ ⟨g.e.pre, g.e.new, fun _ z => .inl (g.e.fm _ z), fun a z => ?_, g.e.keep, g.e.keepF, g.e.there, g.e.tups⟩ ⟨g.w.nd, g.w.hs, fun a m => ?_⟩ ⟨g.c.1, fun i d q => ?_⟩ (show RP K ⟨p.H, p.rho, fun b => p.F b ∨ b = b0⟩ (.d (.lst acc)) (.ref b0) from RD.lst ⟨Or.inr rfl, h1⟩ (h2.mono hf)) q
    · rcases z with z | z
      · exact g.e.fn a z
      · exact .inr (.inl (by rw [z]; exact n1))
    · rcases m with m | m
      · exact g.w.fs a m
      · exact ⟨_, by rw [m]; exact h1⟩
    · obtain ⟨b, q1, q2⟩ := g.c.2 i d q
      have nb : b ≠ b0 := fun z => g.nr (by rw [← z]; exact List.mem_of_getElem? q1)
      refine ⟨b, q1, ?_⟩
      exact q2.hf hf rfl fun z => z.elim id fun w => absurd w nb
  | cell =>
    have hf : HF p ⟨p.H, p.rho ++ [b0], p.F⟩ := ⟨fun _ z => z, fun b o z f => z, fun _ _ z => z⟩
    obtain ⟨t, ht⟩ := g.e.pre
    have q : Qd (.loc l.length) (l ++ [.lst acc]) := q
    refine k (.loc l.length) (l ++ [.lst acc]) (.ref b0) ⟨p.H, p.rho ++ [b0], p.F⟩ ⟨⟨t ++ [b0], by show p.rho ++ [b0] = _; rw [ht, List.append_assoc]⟩, fun a z => ?_, g.e.fm, g.e.fn, g.e.keep, g.e.keepF, g.e.there, g.e.tups⟩ ⟨?_, fun a m => ?_, g.w.fs⟩ ⟨by simp [g.c.1], fun i d q => ?_⟩
      (show RP K ⟨p.H, p.rho ++ [b0], p.F⟩ (.loc l.length) (.ref b0) from ⟨b0, by
        show (p.rho ++ [b0])[l.length]? = some b0
        rw [g.c.1, List.getElem?_append_right (Nat.le_refl _)]
        simp, rfl⟩) q
    · rcases List.mem_append.mp z with z | z
      · exact g.e.new a z
      · simp at z
        exact .inr (by rw [z]; exact n1)
    · show (p.rho ++ [b0]).Nodup
      rw [List.nodup_append]
      refine ⟨g.w.nd, by simp, fun x hx y hy e => ?_⟩
      simp at hy
      subst hy; subst e
      exact g.nr hx
    · rcases List.mem_append.mp m with m | m
      · exact g.w.hs a m
      · simp at m
        exact ⟨_, by rw [m]; exact h1⟩
    · by_cases hi : i < l.length
      · rw [List.getElem?_append_left hi] at q
        obtain ⟨b, q1, q2⟩ := g.c.2 i d q
        refine ⟨b, ?_, ?_⟩
        · show (p.rho ++ [b0])[i]? = _
          rw [List.getElem?_append_left (by rw [← g.c.1]; exact hi)]
          exact q1
        · exact q2.hf hf rfl fun z => z
      · have hi' : i = l.length := by
          have := (List.getElem?_eq_some_iff.mp q).1
          simp at this
          omega
        subst hi'
        rw [List.getElem?_append_right (Nat.le_refl _)] at q
        simp at q
        subst q
        refine ⟨b0, ?_, g.nF, vs, h1, h2.mono hf⟩
        show (p.rho ++ [b0])[l.length]? = _
        rw [g.c.1, List.getElem?_append_right (Nat.le_refl _)]
        simp
section
variable {X : Cx} {W : WX} {elt tg iter : Expr} {ifs : List Expr} {scope : Scope} {own : List (Str × Nat)} {pos : Pos} {wi : WI} {g : WG} {tt : WT} {te : WE}
theorem lc_ok {f : Fresh} {σ : St} {H : Hp} {Q : VK} (h : cE X.K W (wLc wi g tt te (own.map (·.2)) f) σ H Q) : tLc (cI X.K W wi) (cGv X.K (own.map (·.2)) g) (cT X.K W0 tt) (cE X.K W0 te) (own.map (·.2)) σ H Q := by
  obtain ⟨p, σd, l, Qd, Ed, hH, R, hw, k, lk⟩ := h
  subst hH
  refine cI_ok R hw lk fun I l1 J p1 e1 R1 it q1 D hD => ?_
  obtain ⟨Iv, h0, hok, hturn, hend⟩ := q1
  refine ⟨fun i m H' => m = I.xs.length - i ∧ i ≤ I.xs.length ∧ ∃ p2 l2 acc, p2.H = H' ∧ Grow X.K p1 p2 D acc l2 ∧ Iv i acc l2, ⟨_, rfl, Nat.zero_le _, _, l1, [], rfl, Grow.start R1.wf R1.ce hD, h0⟩, ?_⟩
  rintro i m H2 ⟨rfl, hi, p2, l2, acc, rfl, G2, q2⟩
  obtain ⟨ok2, sz2⟩ := hok _ _ _ q2
  obtain ⟨i1, i2, i3⟩ := it p2 l2 G2.e.lat G2.w G2.c ok2 i
  by_cases hlt : i < I.xs.length
  · refine .inr ⟨i2 hlt, fun H' => ∃ p2 l2 acc, p2.H = H' ∧ Grow X.K p1 p2 D acc l2 ∧ Iv (i + 1) acc l2, fun H' hN => ⟨I.xs.length - (i + 1), by omega, rfl, hlt, hN⟩, fun x H' hy => ?_⟩
    obtain ⟨p3, rfl, e3, w3, c3, r3⟩ := i3 x H' _ (List.getElem?_eq_getElem hlt) hy
    have G3 := G2.go e3 w3 c3
    have R3 : Rel X.K p3 (wipe σ (own.map (·.2))) (wipeD σd (own.map (·.2))) l2 := ⟨w3, ((R1.sl.mono G3.e).wipe _), c3⟩
    refine ⟨p3, _, l2, .d _, _, rfl, R3, r3, hturn i _ acc l2 (List.getElem?_eq_getElem hlt) q2, fun p4 σ4 σd4 l4 e4 R4 z1 z2 q4 => ⟨wipe_idem z1 z2, ?_⟩⟩
    have G4 := G3.go e4 R4.wf R4.ce
    refine cT_ok R4 q4.2 LinkE.never fun b l5 p5 e5 R5 q5 => ?_
    have G5 := G4.go e5 R5.wf R5.ce
    cases b with
    | true =>
      unfold kTs at q5
      rw [if_pos rfl] at q5 ⊢
      refine cE_ok R5 q5 LinkE.never fun y l6 v p6 e6 R6 r6 q6 => ?_
      have G6 := G5.go e6 R6.wf R6.ce
      unfold kEl at q6
      split at q6
      · rename_i y
        obtain ⟨vs, h1, h2, G7⟩ := G6.add hD r6
        exact ⟨vs, h1, by rw [h2]; exact sz2, _, l6, _, rfl, G7, q6⟩
      · exact q6.elim
    | false =>
      unfold kTs at q5
      rw [if_neg Bool.false_ne_true] at q5 ⊢
      exact ⟨p5, l5, acc, rfl, G5, q5⟩
  · have : i = I.xs.length := by omega
    subst this
    exact .inl ⟨i1 (Nat.le_refl _), G2.end_ hD (hend _ _ q2) fun d l' v p' e' w' c' r' q' => k d l' v p' (e1.trans e') (R1.ext e' w' c') r' q'⟩
theorem qe_lc {f : Fresh} (hc : X.calm = true) (hN : X.N.Nodup) (hi : QI X W tg iter wi) (ok : BlkOk X.N X.env.scope scope own)
    (hg : ∀ (s : Shared) (H : Hp) (C : Addr) (cl : List (Str × Addr)) (fp : List Addr), QGv (X.blk s H scope (compEnvC scope cl C X.env) fp) (own.map (·.2)) tg g) (ht : ∀ (s : Shared) (H : Hp) (C : Addr) (cl : List (Str × Addr)) (fp : List Addr), QTs (X.blk s H scope (compEnvC scope cl C X.env) fp) W0 ifs tt)
    (he : ∀ (s : Shared) (H : Hp) (C : Addr) (cl : List (Str × Addr)) (fp : List Addr), QE (X.blk s H scope (compEnvC scope cl C X.env) fp) W0 elt te) (hs : ∀ x, foldedSetIterable iter X.env x = pure x := by intro _; rfl) :
    QE X W (.ListComp elt [⟨tg, iter, ifs, 0⟩] scope pos) (wLc wi g tt te (own.map (·.2)) f) :=
  PE.imp (pe_lc (own := own) (g := cGv X.K (own.map fun q : Str × Nat => q.2) g) (tt := cT X.K W0 tt) (te := cE X.K W0 te) hc hN hi ok hg ht he hs) fun σ H Q h => lc_ok h
theorem qs_setLc {f : Fresh} {i : Nat} {y : Str} {py spos : Pos} (hc : X.calm = true) (hN : X.N.Nodup) (hy : X.N[i]? = some y) (hyl : X.env.scope.names.lookup y = some .local)
    (hsw : swapsWith (.ListComp elt [⟨tg, iter, ifs, 0⟩] scope pos) (some (.Name y py)) spos.line X.env = pure true) (hi : QI X W tg iter wi) (ok : BlkOk X.N X.env.scope scope own)
    (hg : ∀ (s : Shared) (H : Hp) (C : Addr) (cl : List (Str × Addr)) (fp : List Addr), QGv (X.blk s H scope (compEnvC scope cl C X.env) fp) (own.map (·.2)) tg g) (ht : ∀ (s : Shared) (H : Hp) (C : Addr) (cl : List (Str × Addr)) (fp : List Addr), QTs (X.blk s H scope (compEnvC scope cl C X.env) fp) W0 ifs tt)
    (he : ∀ (s : Shared) (H : Hp) (C : Addr) (cl : List (Str × Addr)) (fp : List Addr), QE (X.blk s H scope (compEnvC scope cl C X.env) fp) W0 elt te) (hs : ∀ x, foldedSetIterable iter X.env x = pure x := by intro _; rfl) :
    QS X W (.Assign [.Name y py] (.ListComp elt [⟨tg, iter, ifs, 0⟩] scope pos) spos) (wAsg (wLc wi g tt te (own.map (·.2)) f) (gN i)) :=
  PS.imp (ps_setLc (own := own) (g := cGv X.K (own.map fun q : Str × Nat => q.2) g) (tt := cT X.K W0 tt) (te := cE X.K W0 te) hc hN hy hyl hsw hi ok hg ht he hs) fun D σ H ⟨p, σd, l, Dd, hH, R, hw, k⟩ => by
    subst hH
    exact lc_ok (X := X) (W := W) (cE_ok R hw k.link fun x l1 v p1 e1 R1 r1 q1 => k.nx p1 _ _ l1 e1 (R1.set r1) q1)
end
/-! ### defs -/
abbrev FS := List P → LS → (P → LS → Prop) → EK → Prop
/-- a def's promise over plain data: p has the arguments' cells alone -/
def spQ (K : PySem.W.Frag) (n : Nat) (fs : FS) : Sp := fun vs H Q E => ∃ (p : Pt) (ds : List P) (l : LS) (Qd : P → LS → Prop) (Ed : EK), p.H = H ∧ WF p ∧ Cells K p l ∧ RPs K p ds vs ∧ ds.length = n ∧ fs ds l Qd Ed ∧
  (∀ d l' v p', Ext p p' → WF p' → Cells K p' l' → RP K p' d v → Qd d l' → Q v p'.H) ∧ (∀ ex l' cls dd p', Ext p p' → WF p' → Cells K p' l' → XR K p' ex cls dd → Ed ex l' → E cls dd p'.H)
/-- what comes back: the arguments' cells, then the cell of a new list that is handed back -/
def retN (n : Nat) (Qd : P → LS → Prop) (r : P) (l : LS) : Prop := match r with
  | .d x => Qd (.d x) (l.take n)
  | .loc j => if j < n then Qd (.loc j) (l.take n) else match l[j]? with
    | some c => Qd (.loc n) (l.take n ++ [c])
    | none => False
  | .exc _ _ _ _ => False
def kEnd (n : Nat) (Qd : P → LS → Prop) (_ : SS) (l : LS) : Prop := retN n Qd (.d .non) l
def kNever (_ : SS) (_ : LS) : Prop := False
def kEx (Ed : EK) (ex : Ex) (_ : SS) (l : LS) : Prop := Ed ex l
theorem cut_ok {K : PySem.W.Frag} {p p' : Pt} {l : LS} (e : Ext p p') (w : WF p') (c : Cells K p' l) : ∃ p2 : Pt, p2.H = p'.H ∧ p2.F = p'.F ∧ p2.rho = p.rho ∧ Ext p p2 ∧ WF p2 ∧ Cells K p2 (l.take p.rho.length) ∧ HF p' p2 := by
  obtain ⟨t, ht⟩ := e.pre
  refine ⟨⟨p'.H, p.rho, p'.F⟩, rfl, rfl, rfl, ⟨⟨[], by simp⟩, fun _ z => .inl z, e.fm, e.fn, e.keep, e.keepF, e.there, e.tups⟩, ⟨?_, fun a m => w.hs a (by rw [ht]; exact List.mem_append_left _ m), w.fs⟩, ⟨?_, fun i d q => ?_⟩, ⟨fun _ z => z, fun _ _ z _ => z, fun _ _ z => z⟩⟩
  · have nd := w.nd
    rw [ht, List.nodup_append] at nd
    exact nd.1
  · rw [List.length_take, c.1, ht, List.length_append]
    show min p.rho.length (p.rho.length + t.length) = p.rho.length
    omega
  · have hi : i < p.rho.length := by
      have := (List.getElem?_eq_some_iff.mp q).1
      rw [List.length_take] at this
      omega
    rw [List.getElem?_take_of_lt hi] at q
    obtain ⟨a, h1, h2⟩ := c.2 i d q
    rw [ht, List.getElem?_append_left hi] at h1
    refine ⟨a, h1, ?_⟩
    exact h2.hf ⟨fun _ z => z, fun _ _ z _ => z, fun _ _ z => z⟩ rfl fun z => z
theorem ret_ok {K : PySem.W.Frag} {p p' : Pt} {l : LS} {r : P} {v : V} {n : Nat} {Qd : P → LS → Prop} {Q : VK} (e : Ext p p') (w : WF p') (c : Cells K p' l) (rr : RP K p' r v) (hn : p.rho.length = n) (h : retN n Qd r l)
    (k : ∀ d l' v p', Ext p p' → WF p' → Cells K p' l' → RP K p' d v → Qd d l' → Q v p'.H) : Q v p'.H := by
  subst hn
  obtain ⟨p2, hH, hF, hr, e2, w2, c2, hf⟩ := cut_ok e w c
  unfold retN at h
  split at h
  · rename_i x
    have r2 : RP K p2 (.d x) v := RD.mono hf rr
    rw [← hH]
    exact k _ _ _ _ e2 w2 c2 r2 h
  · rename_i j
    obtain ⟨a, h1, rfl⟩ := rr
    obtain ⟨t, ht⟩ := e.pre
    split at h
    · rename_i hj
      rw [← hH]
      refine k (.loc j) _ _ _ e2 w2 c2 (show RP K p2 (.loc j) (.ref a) from ⟨a, ?_, rfl⟩) h
      rw [hr]
      rw [ht, List.getElem?_append_left hj] at h1
      exact h1
    · rename_i hj
      split at h
      · rename_i cl hcl
        obtain ⟨b, h2, h3⟩ := c.2 j cl hcl
        rw [h1] at h2
        cases h2
        have na : a ∉ p.rho := fun m => by
          obtain ⟨i, hi1⟩ := List.getElem?_of_mem m
          have hi2 : i < p.rho.length := (List.getElem?_eq_some_iff.mp hi1).1
          have hi3 : p'.rho[i]? = some a := by rw [ht, List.getElem?_append_left hi2]; exact hi1
          have := nodup_at w.nd hi3 h1
          omega
        have hf3 : HF p' ⟨p'.H, p.rho ++ [a], p'.F⟩ := ⟨fun _ z => z, fun _ _ z _ => z, fun _ _ z => z⟩
        have pa : p.H a = none := by
          rcases e.new a (List.mem_of_getElem? h1) with z | z
          · exact absurd z na
          · exact z
        refine k (.loc p.rho.length) (l.take p.rho.length ++ [cl]) _ ⟨p'.H, p.rho ++ [a], p'.F⟩ ⟨⟨[a], rfl⟩, fun b z => ?_, e.fm, e.fn, e.keep, e.keepF, e.there, e.tups⟩ ⟨?_, fun b m => ?_, w.fs⟩ ⟨?_, fun i d q => ?_⟩ (show RP K ⟨p'.H, p.rho ++ [a], p'.F⟩ (.loc p.rho.length) (.ref a) from ⟨a, by
          show (p.rho ++ [a])[p.rho.length]? = _
          rw [List.getElem?_append_right (Nat.le_refl _)]
          simp, rfl⟩) h
        · rcases List.mem_append.mp z with z | z
          · exact .inl z
          · simp at z; exact .inr (by rw [z]; exact pa)
        · show (p.rho ++ [a]).Nodup
          rw [List.nodup_append]
          refine ⟨?_, by simp, fun x hx y hy q => ?_⟩
          · have nd := w.nd
            rw [ht, List.nodup_append] at nd
            exact nd.1
          · simp at hy
            subst hy; subst q
            exact na hx
        · rcases List.mem_append.mp m with m | m
          · exact w.hs b (by rw [ht]; exact List.mem_append_left _ m)
          · simp at m
            exact w.hs b (by rw [m]; exact List.mem_of_getElem? h1)
        · have := c2.1
          rw [hr] at this
          simp [this]
        · by_cases hi : i < p.rho.length
          · have hi' : i < (l.take p.rho.length).length := by rw [c2.1, hr]; exact hi
            rw [List.getElem?_append_left hi'] at q
            obtain ⟨b, q1, q2⟩ := c2.2 i d q
            rw [hr] at q1
            refine ⟨b, ?_, ?_⟩
            · show (p.rho ++ [a])[i]? = _
              rw [List.getElem?_append_left hi]; exact q1
            · exact q2.hf ⟨fun _ z => by show p'.F _; rw [← hF]; exact z, fun b o z _ => by show p'.H b = _; rw [← hH]; exact z, fun b o z => by show p'.H b = _; rw [← hH]; exact z⟩ (by show p'.H b = _; rw [hH]) fun z => by rw [hF]; exact z
          · have hl : (l.take p.rho.length).length = p.rho.length := by rw [c2.1, hr]
            have hi' : i = p.rho.length := by
              have := (List.getElem?_eq_some_iff.mp q).1
              simp only [List.length_append, hl, List.length_singleton] at this
              omega
            subst hi'
            rw [List.getElem?_append_right (by rw [hl]; exact Nat.le_refl _), hl] at q
            simp at q
            subst q
            refine ⟨a, ?_, ?_⟩
            · show (p.rho ++ [a])[p.rho.length]? = _
              rw [List.getElem?_append_right (Nat.le_refl _)]
              simp
            · exact h3.hf hf3 rfl fun z => z
      · exact h.elim
  · exact h.elim
/-- the names at the entry -/
def startD (N : List Str) (ds : List P) : SS := ds.map some ++ List.replicate (N.length - ds.length) none
theorem start_sl {K : PySem.W.Frag} {p : Pt} {N : List Str} {ds : List P} {vs : List V} (h : RPs K p ds vs) : Slots K p (startD N ds) (L2.start N vs) := by
  have hl : ds.length = vs.length := Paired.length h
  refine ⟨by simp [startD, L2.start, hl], fun i d q => ?_⟩
  unfold startD at q
  by_cases hi : i < ds.length
  · rw [List.getElem?_append_left (by simpa using hi), List.getElem?_map] at q
    cases e : ds[i]? with
    | none => rw [e] at q; cases q
    | some d' =>
      rw [e] at q
      cases q
      have : ∀ {ds : List P} {vs : List V} {i : Nat}, RPs K p ds vs → ds[i]? = some d → ∃ v, vs[i]? = some v ∧ RP K p d v := by
        intro ds vs i h
        induction h generalizing i with
        | nil => intro e; simp at e
        | cons r _ ih =>
          intro e
          cases i with
          | zero => simp at e; subst e; exact ⟨_, rfl, r⟩
          | succ i => simpa using ih (by simpa using e)
      obtain ⟨v, g1, g2⟩ := this h e
      refine ⟨v, ?_, g2⟩
      unfold L2.start
      rw [List.getElem?_append_left (by simpa using (List.getElem?_eq_some_iff.mp g1).1), List.getElem?_map, g1]
      rfl
  · rw [List.getElem?_append_right (by simpa using hi), List.getElem?_replicate] at q
    split at q <;> cases q
section
variable {P : Program} {w : World} {K : PySem.W.Frag} {mg : Str → Option Value} {base : Heap}
open PyProof.Rows (envOfC) in
/-- THE RULE for a def -/
theorem fun_q {x qual : Str} {st : Stmt} {f : Addr} {fd : FuncData} {N ps : List Str} {k : Nat} {fs : FS} {wb : WS} (F : Fun K x qual st f fd) (S : FnScope N ps (defScope st)) (n : Nat) (hn : n = ps.length)
    (hbody : ∀ (cdv : Value) (A : Around) (outer : List Env) (s : Shared) (H : Hp) (E : XK), Room k (A.deeper (envOfC qual (defScope st) s.heap.objs.size f cdv)) →
      L2N.Takes (cxOf (L2N.CX P w) P w K mg base N qual (defScope st) f cdv A outer s H E) (fun cls d _ H => E cls d H) →
      QSs (cxOf (L2N.CX P w) P w K mg base N qual (defScope st) f cdv A outer s H E) (fun cls d _ H => E cls d H) (defBody st) wb)
    (hw : ∀ ds l Qd Ed, ds.length = n → fs ds l Qd Ed → wb { nx := kEnd l.length Qd, rt := retN l.length Qd, bk := kNever, ct := kNever, ex := kEx Ed } (startD N ds) l) :
    FnOk P w K mg base (L2N.CX P w) (k + 1) f fd ps (spQ K n fs) := by
  obtain ⟨oc, od, kV, doc, pm, an, cdv, ct, osl, rfl, lk, hcd⟩ := F.ex
  refine fn_of lk hcd S (fun vs H Q E h => ?_) fun A outer s H vs Q E hr h => ⟨_, hbody cdv A outer s H E hr (L2N.takes_of rfl rfl rfl rfl), ?_⟩
  · obtain ⟨p, ds, l, Qd, Ed, _, _, _, r, e, _⟩ := h
    rw [← Paired.length r, e, hn]
  · obtain ⟨p, ds, l, Qd, Ed, rfl, wf, ce, r, e, hfs, kk, kx⟩ := h
    refine cS_ok ⟨wf, start_sl r, ce⟩ (hw ds l Qd Ed e hfs) ⟨fun p' σ' σd' l' e' R q => ?_, fun _ _ _ _ _ _ q => q.elim, fun _ _ _ _ _ _ q => q.elim, fun p' d v l' e' w' c' r' q => ?_, fun p' σ' σd' l' ex cls dd e' R x q => ?_⟩
    · exact ret_ok (r := .d .non) e' R.wf R.ce RD.non ce.1.symm q kk
    · exact ret_ok e' w' c' r' ce.1.symm q kk
    · exact kx ex l' cls dd p' e' R.wf R.ce x q
end
end QL
set_option Elab.async false
set_option linter.all false
set_option maxRecDepth 100000
set_option maxHeartbeats 4000000
/-! QL6: calls of own defs. -/
namespace QL
open PySem L2

def locsOf : List P → List Nat
  | [] => []
  | .loc n :: r => n :: locsOf r
  | _ :: r => locsOf r
def relab : List P → Nat → List P
  | [], _ => []
  | .loc _ :: r, i => .loc i :: relab r (i + 1)
  | x :: r, i => x :: relab r i
def pick (l : LS) : List Nat → Option LS
  | [] => some []
  | n :: ns => match l[n]?, pick l ns with
    | some c, some cs => some (c :: cs)
    | _, _ => none
def wback : LS → List Nat → LS → LS
  | l, n :: ns, c :: cs => wback (l.set n c) ns cs
  | l, _, _ => l
def callB (ns : List Nat) (l : LS) (Q : P → LS → Prop) (r : P) (cs : LS) : Prop := match r with
  | .d x => Q (.d x) (wback l ns cs)
  | .loc j => if j < ns.length then Q (.loc (ns.getD j 0)) (wback l ns cs) else if j = ns.length then (match cs[ns.length]? with
    | some c => Q (.loc l.length) (wback l ns cs ++ [c])
    | none => False) else False
  | .exc _ _ _ _ => False
def callE (ns : List Nat) (l : LS) (E : EK) (ex : Ex) (cs : LS) : Prop := E ex (wback l ns cs)
def callP (fs : FS) (vs : List P) (l : LS) (Q : P → LS → Prop) (E : EK) : Prop := match pick l (locsOf vs) with
  | some cs => (locsOf vs).Nodup ∧ fs (relab vs 0) cs (callB (locsOf vs) l Q) (callE (locsOf vs) l E)
  | none => False

theorem wback_len : ∀ (ns : List Nat) (l cs : LS), (wback l ns cs).length = l.length
  | [], l, cs => by cases cs <;> rfl
  | n :: ns, l, [] => rfl
  | n :: ns, l, c :: cs => by
    show (wback (l.set n c) ns cs).length = _
    rw [wback_len ns, List.length_set]
theorem wback_out : ∀ (ns : List Nat) (l cs : LS) (i : Nat), i ∉ ns → (wback l ns cs)[i]? = l[i]?
  | [], l, cs, i, _ => by cases cs <;> rfl
  | n :: ns, l, [], i, _ => rfl
  | n :: ns, l, c :: cs, i, h => by
    simp only [List.mem_cons, not_or] at h
    show (wback (l.set n c) ns cs)[i]? = _
    rw [wback_out ns _ cs i h.2, List.getElem?_set_ne fun e => h.1 e.symm]
theorem wback_in : ∀ (ns : List Nat) (l cs : LS) (i j : Nat) (c : Cell), ns.Nodup → ns[j]? = some i → i < l.length → cs[j]? = some c → (wback l ns cs)[i]? = some c
  | [], _, _, _, _, _, _, h, _, _ => by simp at h
  | n :: ns, l, [], i, j, c, _, _, _, h => by simp at h
  | n :: ns, l, d :: cs, i, 0, c, nd, h, hi, hc => by
    simp at h hc
    subst h; subst hc
    show (wback (l.set n d) ns cs)[n]? = _
    rw [wback_out ns _ cs n (List.nodup_cons.mp nd).1, List.getElem?_set_self hi]
  | n :: ns, l, d :: cs, i, j + 1, c, nd, h, hi, hc => by
    show (wback (l.set n d) ns cs)[i]? = _
    exact wback_in ns _ cs i j c (List.nodup_cons.mp nd).2 (by simpa using h) (by simpa using hi) (by simpa using hc)
theorem pick_get : ∀ {ns : List Nat} {l cs : LS}, pick l ns = some cs → cs.length = ns.length ∧ ∀ (j n : Nat), ns[j]? = some n → ∃ c, l[n]? = some c ∧ cs[j]? = some c
  | [], l, cs, h => by
    cases h
    exact ⟨rfl, fun j n h => by simp at h⟩
  | n :: ns, l, cs, h => by
    unfold pick at h
    split at h
    · rename_i c cs' h1 h2
      cases h
      obtain ⟨g1, g2⟩ := pick_get h2
      refine ⟨by simp [g1], fun j m hj => ?_⟩
      cases j with
      | zero => simp at hj; subst hj; exact ⟨c, h1, rfl⟩
      | succ j => simpa using g2 j m (by simpa using hj)
    · cases h
section
variable {K : PySem.W.Frag} {p : Pt} {l : LS}
/-- the addresses of some cells -/
def addrs (p : Pt) (ns : List Nat) : List Addr := ns.map fun n => p.rho.getD n 0
theorem addrs_get {ns : List Nat} {j n : Nat} {a : Addr} (h : ns[j]? = some n) (h2 : p.rho[n]? = some a) : (addrs p ns)[j]? = some a := by
  unfold addrs
  rw [List.getElem?_map, h]
  simp [List.getD, h2]
theorem relab_ok {ns : List Nat} : ∀ {vs : List P} {us : List V} {i : Nat} {t : List Nat}, RPs K p vs us → ns = t ++ locsOf vs → t.length = i → RPs K ⟨p.H, addrs p ns, p.F⟩ (relab vs i) us
  | [], _, _, _, .nil, _, _ => .nil
  | .d x :: r, _, i, t, .cons h q, e, hi => .cons (show RP K ⟨p.H, addrs p ns, p.F⟩ (.d x) _ from RD.mono (p := p) (p' := ⟨p.H, addrs p ns, p.F⟩) ⟨fun _ z => z, fun _ _ z _ => z, fun _ _ z => z⟩ h) (relab_ok q e hi)
  | .exc a c dd ex :: r, _, i, t, .cons h q, e, hi => .cons (show RP K ⟨p.H, addrs p ns, p.F⟩ (.exc a c dd ex) _ from ⟨h.1, XR.mono (p := p) (p' := ⟨p.H, addrs p ns, p.F⟩) ⟨fun _ z => z, fun _ _ z _ => z, fun _ _ z => z⟩ h.2⟩) (relab_ok q e hi)
  | .loc n :: r, _, i, t, .cons h q, e, hi => by
    obtain ⟨a, h1, rfl⟩ := h
    refine .cons (show RP K ⟨p.H, addrs p ns, p.F⟩ (.loc i) _ from ⟨a, ?_, rfl⟩) (relab_ok (t := t ++ [n]) q (by rw [e]; simp [locsOf]) (by simp [hi]))
    refine addrs_get (n := n) ?_ h1
    rw [e, List.getElem?_append_right (by omega)]
    simp [hi, locsOf]
theorem call_ok {fs : FS} {n : Nat} {vs : List P} {us : List V} {Qd : P → LS → Prop} {Ed : EK} {Q : VK} {E : XK} (w : WF p) (ce : Cells K p l) (r : RPs K p vs us) (hl : vs.length = n) (h : callP fs vs l Qd Ed)
    (k : After K p Qd Q) (kx : ∀ ex l' cls dd p', Ext p p' → WF p' → Cells K p' l' → XR K p' ex cls dd → Ed ex l' → E cls dd p'.H) : spQ K n fs us p.H Q E := by
  unfold callP at h
  split at h
  · rename_i cs hcs
    obtain ⟨nd, hfs⟩ := h
    obtain ⟨gl, gp⟩ := pick_get hcs
    generalize hns : locsOf vs = ns at *
    have lt : ∀ j m, ns[j]? = some m → ∃ a, p.rho[m]? = some a ∧ (addrs p ns)[j]? = some a := fun j m e => by
      obtain ⟨c, h1, _⟩ := gp j m e
      obtain ⟨a, h2, _⟩ := ce.2 m c h1
      exact ⟨a, h2, addrs_get e h2⟩
    have sub : ∀ a ∈ addrs p ns, ∃ (j m : Nat), ns[j]? = some m ∧ p.rho[m]? = some a ∧ (addrs p ns)[j]? = some a := fun a m => by
      obtain ⟨j, hj⟩ := List.getElem?_of_mem m
      have hj1 : j < ns.length := by
        have := (List.getElem?_eq_some_iff.mp hj).1
        simpa [addrs] using this
      obtain ⟨b, h1, h2⟩ := lt j _ (List.getElem?_eq_getElem hj1)
      rw [hj] at h2
      cases h2
      exact ⟨j, _, List.getElem?_eq_getElem hj1, h1, hj⟩
    have wc : WF ⟨p.H, addrs p ns, p.F⟩ := by
      refine ⟨?_, fun a m => ?_, w.fs⟩
      · rw [List.nodup_iff_pairwise_ne, List.pairwise_iff_getElem]
        intro i j hi hj hij e
        have h1 := List.getElem?_eq_getElem hi
        have h2 := List.getElem?_eq_getElem hj
        obtain ⟨a, q1, q2⟩ := lt i _ (List.getElem?_eq_getElem (by simpa [addrs] using hi))
        obtain ⟨b, q3, q4⟩ := lt j _ (List.getElem?_eq_getElem (by simpa [addrs] using hj))
        rw [h1] at q2
        rw [h2] at q4
        cases q2; cases q4
        rw [e] at q1
        have z := nodup_at w.nd q1 q3
        have z2 := (List.getElem_inj nd).mp z
        omega
      · obtain ⟨_, _, _, h1, _⟩ := sub a m
        exact w.hs a (List.mem_of_getElem? h1)
    have cc : Cells K ⟨p.H, addrs p ns, p.F⟩ cs := by
      refine ⟨by simp [addrs, gl], fun j c e => ?_⟩
      have hj : j < ns.length := by rw [← gl]; exact (List.getElem?_eq_some_iff.mp e).1
      obtain ⟨c', h1, h2⟩ := gp j _ (List.getElem?_eq_getElem hj)
      rw [e] at h2
      cases h2
      obtain ⟨a, h3, h4⟩ := ce.2 _ _ h1
      exact ⟨a, addrs_get (List.getElem?_eq_getElem hj) h3, h4.hf ⟨fun _ z => z, fun _ _ z _ => z, fun _ _ z => z⟩ rfl fun z => z⟩
    -- back in the caller
    have back : ∀ (p' : Pt) (l' : LS) (t : List Addr) (l2 : LS), Ext ⟨p.H, addrs p ns, p.F⟩ p' → WF p' → Cells K p' l' → (t = [] ∧ l2 = wback l ns l' ∨ ∃ a c, t = [a] ∧ p'.rho[ns.length]? = some a ∧ l'[ns.length]? = some c ∧ l2 = wback l ns l' ++ [c]) →
        Ext p ⟨p'.H, p.rho ++ t, p'.F⟩ ∧ WF ⟨p'.H, p.rho ++ t, p'.F⟩ ∧ Cells K ⟨p'.H, p.rho ++ t, p'.F⟩ l2 := fun p' l' t l2 e w' c' ht => by
      have hnew : ∀ a, a ∈ t → p.H a = none ∧ a ∉ p.rho ∧ ∃ o, p'.H a = some o := fun a m => by
        rcases ht with ⟨rfl, _⟩ | ⟨b, c, rfl, h1, h2, _⟩
        · simp at m
        · simp at m
          subst m
          have hn : p.H a = none := by
            rcases e.new a (List.mem_of_getElem? h1) with z | z
            · exfalso
              obtain ⟨j, hj⟩ := List.getElem?_of_mem z
              obtain ⟨u, hu⟩ := e.pre
              have hj1 : j < (addrs p ns).length := (List.getElem?_eq_some_iff.mp hj).1
              have hj2 : p'.rho[j]? = some a := by rw [hu]; exact (List.getElem?_append_left hj1).trans hj
              have := nodup_at w'.nd hj2 h1
              have hj3 : j < ns.length := by simpa [addrs] using hj1
              omega
            · exact z
          exact ⟨hn, w.nrho hn, w'.hs a (List.mem_of_getElem? h1)⟩
      have hf : HF p' ⟨p'.H, p.rho ++ t, p'.F⟩ := ⟨fun _ z => z, fun _ _ z _ => z, fun _ _ z => z⟩
      have E2 : Ext p ⟨p'.H, p.rho ++ t, p'.F⟩ := by
        refine ⟨⟨t, rfl⟩, fun a m => ?_, e.fm, fun a z => ?_, fun b o z n => e.keep b o z fun m => ?_, e.keepF, e.there, e.tups⟩
        · rcases List.mem_append.mp m with m | m
          · exact .inl m
          · exact .inr (hnew a m).1
        · rcases e.fn a z with z | z | z
          · exact .inl z
          · exact .inr (.inl z)
          · obtain ⟨_, _, _, h1, _⟩ := sub a z
            exact .inr (.inr (List.mem_of_getElem? h1))
        · obtain ⟨_, _, _, h1, _⟩ := sub b m
          exact n (List.mem_of_getElem? h1)
      have W2 : WF ⟨p'.H, p.rho ++ t, p'.F⟩ := by
        refine ⟨?_, fun a m => ?_, w'.fs⟩
        · show (p.rho ++ t).Nodup
          rw [List.nodup_append]
          refine ⟨w.nd, ?_, fun x hx y hy q => (hnew y hy).2.1 (by rw [← q]; exact hx)⟩
          rcases ht with ⟨rfl, _⟩ | ⟨b, c, rfl, _⟩ <;> simp
        · rcases List.mem_append.mp m with m | m
          · obtain ⟨o, z⟩ := w.hs a m
            exact e.there a o z
          · exact (hnew a m).2.2
      have old : ∀ i c, (wback l ns l')[i]? = some c → ∃ a, p.rho[i]? = some a ∧ CellOk K ⟨p'.H, p.rho ++ t, p'.F⟩ c a := fun i c q => by
        have hi : i < l.length := by rw [← wback_len ns l l']; exact (List.getElem?_eq_some_iff.mp q).1
        by_cases m : i ∈ ns
        · obtain ⟨j, hj⟩ := List.getElem?_of_mem m
          obtain ⟨a, h1, h2⟩ := lt j i hj
          obtain ⟨u, hu⟩ := e.pre
          have hj1 : j < ns.length := (List.getElem?_eq_some_iff.mp hj).1
          have h3 : p'.rho[j]? = some a := by rw [hu]; exact (List.getElem?_append_left (by simpa [addrs] using hj1)).trans h2
          have hj2 : j < l'.length := by rw [c'.1]; exact (List.getElem?_eq_some_iff.mp h3).1
          have q2 := wback_in ns l l' i j _ nd hj hi (List.getElem?_eq_getElem hj2)
          rw [q] at q2
          cases q2
          obtain ⟨b, h4, h5⟩ := c'.2 j _ (List.getElem?_eq_getElem hj2)
          rw [h3] at h4
          cases h4
          exact ⟨a, h1, h5.hf hf rfl fun z => z⟩
        · rw [wback_out ns l l' i m] at q
          obtain ⟨a, h1, h2⟩ := ce.2 i c q
          have na : a ∉ addrs p ns := fun z => by
            obtain ⟨j, m', h3, h4, _⟩ := sub a z
            have := nodup_at w.nd h4 h1
            subst this
            exact m (List.mem_of_getElem? h3)
          obtain ⟨o, ho⟩ := w.hs a (List.mem_of_getElem? h1)
          refine ⟨a, h1, h2.mono E2 ((e.keep a o ho na).trans ho.symm) fun z => ?_⟩
          rcases e.fn a z with z | z | z
          · exact z
          · rw [show p.H a = none from z] at ho; cases ho
          · exact absurd z na
      refine ⟨E2, W2, ?_⟩
      have hlen : l.length = p.rho.length := ce.1
      rcases ht with ⟨rfl, rfl⟩ | ⟨a, c, rfl, h1, h2, rfl⟩
      · refine ⟨by rw [wback_len]; simp [ce.1], fun i c q => ?_⟩
        obtain ⟨a, g1, g2⟩ := old i c q
        exact ⟨a, by show (p.rho ++ [])[i]? = _; rw [List.append_nil]; exact g1, g2⟩
      · refine ⟨by simp [wback_len, ce.1], fun i d q => ?_⟩
        by_cases hi : i < l.length
        · rw [List.getElem?_append_left (by rw [wback_len]; exact hi)] at q
          obtain ⟨b, g1, g2⟩ := old i d q
          exact ⟨b, by show (p.rho ++ [a])[i]? = _; rw [List.getElem?_append_left (by omega)]; exact g1, g2⟩
        · have hi' : i = l.length := by
            have := (List.getElem?_eq_some_iff.mp q).1
            simp only [List.length_append, wback_len, List.length_singleton] at this
            omega
          subst hi'
          rw [List.getElem?_append_right (by rw [wback_len]; exact Nat.le_refl _), wback_len] at q
          simp at q
          subst q
          obtain ⟨b, g1, g2⟩ := c'.2 _ _ h2
          rw [h1] at g1
          cases g1
          exact ⟨a, by show (p.rho ++ [a])[l.length]? = _; rw [hlen, List.getElem?_append_right (Nat.le_refl _)]; simp, g2.hf hf rfl fun z => z⟩
    refine ⟨⟨p.H, addrs p ns, p.F⟩, relab vs 0, cs, _, _, rfl, wc, cc, relab_ok (t := []) r (by simp [hns]) rfl, ?_, hfs, fun d l' v p' e w' c' r' q => ?_, fun ex l' cls dd p' e w' c' x q => ?_⟩
    · rw [← hl]
      have : ∀ (vs : List P) (i : Nat), (relab vs i).length = vs.length := by
        intro vs
        induction vs with
        | nil => intro i; rfl
        | cons v r ih => intro i; cases v <;> simp [relab, ih]
      exact this vs 0
    · unfold callB at q
      split at q
      · rename_i x
        obtain ⟨E2, W2, C2⟩ := back p' l' [] _ e w' c' (.inl ⟨rfl, rfl⟩)
        exact k (.d x) _ v ⟨p'.H, p.rho ++ [], p'.F⟩ E2 W2 C2 (show RP K ⟨p'.H, p.rho ++ [], p'.F⟩ (.d x) v from RD.mono (p := p') (p' := ⟨p'.H, p.rho ++ [], p'.F⟩) ⟨fun _ z => z, fun _ _ z _ => z, fun _ _ z => z⟩ r') q
      · rename_i j
        obtain ⟨a, h1, rfl⟩ := r'
        split at q
        · rename_i hj
          obtain ⟨E2, W2, C2⟩ := back p' l' [] _ e w' c' (.inl ⟨rfl, rfl⟩)
          obtain ⟨b, h2, h3⟩ := lt j _ (List.getElem?_eq_getElem hj)
          obtain ⟨u, hu⟩ := e.pre
          have h4 : p'.rho[j]? = some b := by rw [hu]; exact (List.getElem?_append_left (by simpa [addrs] using hj)).trans h3
          rw [h1] at h4
          cases h4
          refine k (.loc (ns.getD j 0)) _ (.ref a) ⟨p'.H, p.rho ++ [], p'.F⟩ E2 W2 C2 (show RP K ⟨p'.H, p.rho ++ [], p'.F⟩ (.loc (ns.getD j 0)) (.ref a) from ⟨a, ?_, rfl⟩) q
          show (p.rho ++ [])[ns.getD j 0]? = _
          rw [List.append_nil, List.getD_eq_getElem?_getD, List.getElem?_eq_getElem hj]
          exact h2
        · rename_i hj
          split at q
          · rename_i hjn
            subst hjn
            split at q
            · rename_i c hc
              obtain ⟨b, g1, g2⟩ := c'.2 _ _ hc
              rw [h1] at g1
              cases g1
              obtain ⟨E2, W2, C2⟩ := back p' l' [a] _ e w' c' (.inr ⟨a, c, rfl, h1, hc, rfl⟩)
              refine k (.loc l.length) _ (.ref a) ⟨p'.H, p.rho ++ [a], p'.F⟩ E2 W2 C2 (show RP K ⟨p'.H, p.rho ++ [a], p'.F⟩ (.loc l.length) (.ref a) from ⟨a, ?_, rfl⟩) q
              show (p.rho ++ [a])[l.length]? = _
              rw [ce.1, List.getElem?_append_right (Nat.le_refl _)]
              simp
            · exact q.elim
          · exact q.elim
      · exact q.elim
    · obtain ⟨E2, W2, C2⟩ := back p' l' [] _ e w' c' (.inl ⟨rfl, rfl⟩)
      exact kx ex _ cls dd ⟨p'.H, p.rho ++ [], p'.F⟩ E2 W2 C2 (XR.mono (p := p') (p' := ⟨p'.H, p.rho ++ [], p'.F⟩) ⟨fun _ z => z, fun _ _ z _ => z, fun _ _ z => z⟩ x) q
  · exact h.elim
end
/-- a def as it may be called by its name -/
def CalQ (P : Program) (w : World) (K : PySem.W.Frag) (mg : Str → Option Value) (base : Heap) (k : Nat) (x : Str) (n : Nat) (fs : FS) : Prop :=
  ∃ f fd ps, FnOk P w K mg base (L2N.CX P w) k f fd ps (spQ K n fs) ∧ mg x = some (.ref f) ∧ PySem.W.keepIn K (.ref f) = true ∧ Binds K fd ps []
section
variable {X : Cx} {W : WX} {e : Expr} {es : List Expr} {ws : WA} {pos q : Pos} {x : Str} {fs : FS} {k j n : Nat}
def kCall (n : Nat) (fs : FS) (Q : P → LS → Prop) (E : EK) (vs : List P) (l : LS) : Prop := vs.length = n ∧ callP fs vs l Q E
def wCall (n : Nat) (fs : FS) (ws : WA) (σ : SS) (l : LS) (Q : P → LS → Prop) (E : EK) : Prop := ws σ l (kCall n fs Q E) E
theorem qe_call (c : CalQ X.prog X.w X.K X.mg X.base k x n fs) (hr : Room j X.A) (hk : k ≤ j) (tk : L2N.Takes X W) (hg : Gl X x) (ha : QA X W (e :: es) ws)
    (hdb : (x == ("__debug__" : Str)) = false := by decide) (he : starEach (e :: es) X.env = (false, eval e X.env) :: starEach es X.env := by rfl) (hpl : (backTo pos (starEach es X.env)).any (·.1) = false := by rfl) :
    QE X W (.Call (.Name x q) (e :: es) [] pos) (wCall n fs ws) := by
  obtain ⟨f, fd, ps, F, hm, hkp, hb⟩ := c
  refine PE.imp (pe_callS (E := fun σ => L2.WE W σ) F (hr.mono hk) hg hm hkp hb (fun σ => L2N.passAt tk σ) ha hdb he hpl) fun σ H Q ⟨p, σd, l, Qd, Ed, hH, R, hw, kk, lk⟩ => ?_
  subst hH
  exact cA_ok R hw lk fun vs l1 us p1 e1 R1 r1 q1 => call_ok R1.wf R1.ce r1 q1.1 q1.2 (fun d l' v p' e' w' c' r' q' => kk d l' v p' (e1.trans e') (R1.ext e' w' c') r' q') fun ex l' cls dd p' e' w' c' x q => lk ex l' cls dd p' (e1.trans e') (R1.ext e' w' c') x q
end
end QL
set_option Elab.async false
set_option linter.all false
set_option maxRecDepth 100000
set_option maxHeartbeats 4000000
/-! QL7: short words for the readings of defs. -/
namespace QL
open PySem L2
theorem qi_lst {X : Cx} {W : WX} {tg e : Expr} {we : WE} (h : QE X W e we) : QI X W tg e (iLst we) := qi_list h (pi_list h)
section
variable {g : WG} {tb : WS} {D : ED} {σ : SS} {l : LS}
/-- a loop over things that stay -/
theorem loopX {xs : List QL.D} (Iv : Nat → SS → LS → Prop) (h0 : Iv 0 σ l)
    (ht : ∀ i x σ l, xs[i]? = some x → Iv i σ l → g (.d x) σ l (kTurn tb D (Iv (i + 1)))) (hd : ∀ σ l, Iv xs.length σ l → D.nx σ l) : loopP ⟨xs, okAll⟩ g tb D σ l :=
  ⟨Iv, h0, fun _ _ _ _ => True.intro, ht, hd⟩
theorem loopR {lo : Int} {n : Nat} (Iv : Nat → SS → LS → Prop) (h0 : Iv 0 σ l)
    (ht : ∀ (i : Nat) σ l, i < n → Iv i σ l → g (.d (.int (lo + i))) σ l (kTurn tb D (Iv (i + 1)))) (hd : ∀ σ l, Iv n σ l → D.nx σ l) : loopP ⟨rangeD lo n, okAll⟩ g tb D σ l :=
  loopX Iv h0 (fun i x σ l e h => by
    obtain ⟨h1, rfl⟩ := rangeD_get e
    exact ht i σ l h1 h) (by rw [rangeD_len]; exact hd)
theorem loopC {lo c : Int} {n : Nat} (Iv : Nat → SS → LS → Prop) (h0 : Iv 0 σ l)
    (ht : ∀ (i : Nat) σ l, i < n → Iv i σ l → g (.d (.int (lo + i * c))) σ l (kTurn tb D (Iv (i + 1)))) (hd : ∀ σ l, Iv n σ l → D.nx σ l) : loopP ⟨rangeC lo c n, okAll⟩ g tb D σ l :=
  loopX Iv h0 (fun i x σ l e h => by
    obtain ⟨h1, rfl⟩ := rangeC_get e
    exact ht i σ l h1 h) (by rw [rangeC_len]; exact hd)
/-- a while by an invariant and a measure -/
def kMs (Iv : SS → LS → Prop) (μ : SS → LS → Nat) (m : Nat) (σ : SS) (l : LS) : Prop := ∃ m', m' < m ∧ m' = μ σ l ∧ Iv σ l
theorem whileI {wt : WT} (Iv : SS → LS → Prop) (μ : SS → LS → Nat) (h0 : Iv σ l) (h : ∀ σ l, Iv σ l → wt σ l (kWh tb D (kMs Iv μ (μ σ l)) σ) (exK D σ)) : whileP wt tb D σ l := by
  refine ⟨fun m σ l => m = μ σ l ∧ Iv σ l, ⟨_, rfl, h0⟩, ?_⟩
  rintro m σ l ⟨rfl, hi⟩
  exact h σ l hi
/-- [elt for x in xs], what an item gives may hang on the cells -/
def kIt (Iv : Nat → List QL.D → LS → Prop) (n i : Nat) (acc : List QL.D) (l : LS) : Prop := (acc.length = i ∧ i ≤ n) ∧ Iv i acc l
theorem lcI {xs : List QL.D} {te : WE} {vs : List Nat} {f : Fresh} {Q : P → LS → Prop} (Iv : Nat → List QL.D → LS → Prop) (hz : xs.length < sizeLine) (h0 : Iv 0 [] l)
    (ht : ∀ i x acc l, xs[i]? = some x → acc.length = i → Iv i acc l → g (.d x) (wipeD σ vs) l (kLcT wYes te vs σ (kIt Iv xs.length (i + 1)) acc)) (hd : ∀ acc l, acc.length = xs.length → Iv xs.length acc l → freshL f acc l Q) : lcP ⟨xs, okAll⟩ g wYes te vs f σ l Q :=
  ⟨kIt Iv xs.length, ⟨⟨rfl, Nat.zero_le _⟩, h0⟩, fun i acc l h => ⟨True.intro, by have := h.1; show acc.length < sizeLine; omega⟩, fun i x acc l e h => ht i x acc l e h.1.1 h.2, fun acc l h => hd acc l h.1.1 h.2⟩
end
/-- over a list in a cell -/
theorem lcC {xs : List D} {ok : LS → Prop} {g : WG} {σ : SS} {l : LS} {te : WE} {vs : List Nat} {f : Fresh} {Q : P → LS → Prop} (Iv : Nat → List D → LS → Prop) (hz : xs.length < sizeLine) (h0 : Iv 0 [] l) (hok : ∀ i acc l, Iv i acc l → ok l)
    (ht : ∀ i x acc l, xs[i]? = some x → acc.length = i → Iv i acc l → g (.d x) (wipeD σ vs) l (kLcT wYes te vs σ (kIt Iv xs.length (i + 1)) acc)) (hd : ∀ acc l, acc.length = xs.length → Iv xs.length acc l → freshL f acc l Q) : lcP ⟨xs, ok⟩ g wYes te vs f σ l Q :=
  ⟨kIt Iv xs.length, ⟨⟨rfl, Nat.zero_le _⟩, h0⟩, fun i acc l h => ⟨hok _ _ _ h.2, by have := h.1; show acc.length < sizeLine; omega⟩, fun i x acc l e h => ht i x acc l e h.1.1 h.2, fun acc l h => hd acc l h.1.1 h.2⟩
theorem loopA {I : Items} {g : WG} {tb : WS} {D : ED} {σ : SS} {l : LS} (Iv : Nat → SS → LS → Prop) (h0 : Iv 0 σ l) (hok : ∀ i σ l, Iv i σ l → I.ok l)
    (ht : ∀ i x σ l, I.xs[i]? = some x → Iv i σ l → g (.d x) σ l (kTurn tb D (Iv (i + 1)))) (hd : ∀ σ l, Iv I.xs.length σ l → D.nx σ l) : loopP I g tb D σ l := ⟨Iv, h0, hok, ht, hd⟩
theorem atI_m {α β : Type} {ns : List α} {f : α → β} {k : Int} {j : Nat} {x : α} (hk : k = (j : Int)) (hx : ns[j]? = some x) : atI (ns.map f) k = some (f x) := by
  subst hk
  have hj := (List.getElem?_eq_some_iff.mp hx).1
  unfold atI ixN
  rw [List.length_map, if_pos (by omega), if_pos (by omega)]
  simp [hx]
theorem atI_n {α : Type} {ns : List α} {k : Int} {j : Nat} {x : α} (hk : k = (j : Int)) (hx : ns[j]? = some x) : atI ns k = some x := by
  subst hk
  have hj := (List.getElem?_eq_some_iff.mp hx).1
  unfold atI ixN
  rw [if_pos (by omega), if_pos (by omega)]
  simp [hx]
theorem ixN_n {n j : Nat} {k : Int} (hk : k = (j : Int)) (h : j < n) : ixN n k = some j := by
  subst hk
  unfold ixN
  rw [if_pos (by omega), if_pos (by omega)]
  simp
theorem get_at {α : Type} {xs : List α} {i : Nat} (h : i < xs.length) : xs[i]? = some xs[i] := List.getElem?_eq_getElem h
theorem dOk_int {n : Nat} {i : Int} : dOk n (.int i) ↔ True := by cases n <;> simp [dOk]
theorem dOk_non {n : Nat} : dOk n .non ↔ True := by cases n <;> simp [dOk]
theorem dOk_bl {n : Nat} {b : Bool} : dOk n (.bl b) ↔ True := by cases n <;> simp [dOk]
theorem dOk_ints {n : Nat} {ns : List Int} : dOk (n + 1) (.tup (ns.map .int)) ↔ True := by
  simp only [dOk_tup, List.mem_map, forall_exists_index, and_imp, forall_apply_eq_imp_iff₂, dOk_int, implies_true]
theorem dOk_lints {n : Nat} {ns : List Int} : dOk (n + 1) (.lst (ns.map .int)) ↔ True := by
  simp only [dOk_lst, List.mem_map, forall_exists_index, and_imp, forall_apply_eq_imp_iff₂, dOk_int, implies_true]
theorem dOk_nil {n : Nat} : dOk (n + 1) (.tup []) ↔ True := by simp [dOk_tup]
theorem dOk_cons {n : Nat} {x : D} {xs : List D} : dOk (n + 1) (.tup (x :: xs)) ↔ dOk n x ∧ dOk (n + 1) (.tup xs) := by simp [dOk_tup]
theorem noB_int {i : Int} : noB (.int i) ↔ True := by simp [noB]
theorem noB_non : noB .non ↔ True := by simp [noB]
theorem noB_str {x : Str} : noB (.str x) ↔ True := by simp [noB]
theorem noB_nil : noB (.tup []) ↔ True := by simp [noB]
theorem noB_cons {x : D} {xs : List D} : noB (.tup (x :: xs)) ↔ noB x ∧ noB (.tup xs) := by simp [noB]
theorem noB_ints {ns : List Int} : noB (.tup (ns.map .int)) ↔ True := by
  simp only [noB, List.mem_map, forall_exists_index, and_imp, forall_apply_eq_imp_iff₂, implies_true]
theorem rng_snoc {α : Type} {y : Nat → α} {acc : List α} {i : Nat} (h : acc = (List.range i).map y) : acc ++ [y i] = (List.range (i + 1)).map y := by
  rw [List.range_succ, List.map_append, h]
  rfl
/-! the size of data -/
mutual
def D.sz : D → Nat
  | .tup xs => 1 + D.szs xs
  | .lst xs => 1 + D.szs xs
  | _ => 1
def D.szs : List D → Nat
  | [] => 0
  | x :: xs => x.sz + D.szs xs
end
theorem szs_app : ∀ xs ys : List D, D.szs (xs ++ ys) = D.szs xs + D.szs ys
  | [], ys => by simp [D.szs]
  | x :: xs, ys => by simp only [List.cons_append, D.szs, szs_app xs ys]; omega
theorem sz_pos (x : D) : 1 ≤ x.sz := by cases x <;> simp [D.sz]
theorem len_szs : ∀ xs : List D, xs.length ≤ D.szs xs
  | [] => Nat.le_refl _
  | x :: xs => by
    have := len_szs xs
    have := sz_pos x
    simp only [List.length_cons, D.szs]
    omega
theorem last_split {α : Type} {xs : List α} (h : xs ≠ []) : ∃ (ys : List α) (y : α), xs = ys ++ [y] ∧ xs[xs.length - 1]? = some y ∧ xs.dropLast = ys := by
  refine ⟨xs.dropLast, xs.getLast h, (List.dropLast_concat_getLast h).symm, ?_, rfl⟩
  rw [← List.getLast?_eq_getElem?, List.getLast?_eq_some_getLast h]
theorem atI_cons1 {α : Type} {x y : α} {r : List α} : atI (x :: y :: r) 1 = some y := atI_n (j := 1) rfl rfl
theorem atI_cons2 {α : Type} {x y z : α} {r : List α} : atI (x :: y :: z :: r) 2 = some z := atI_n (j := 2) rfl rfl
theorem cutTake {α : Type} {xs : List α} {k : Nat} : cutD xs none (some (k : Int)) = xs.take k := by
  unfold cutD
  rw [HT.sIx_none, HT.sIx_nat]
  simp only [List.drop_zero, Nat.sub_zero]
  rw [Nat.min_comm, ← List.take_take]
  exact List.take_of_length_le (by simp; omega)
theorem atI_cons0 {α : Type} {x : α} {r : List α} : atI (x :: r) 0 = some x := atI_n (j := 0) rfl rfl
theorem seqIx0 {n : Nat} : seqIndex? 0 (n + 1) = some 0 := by
  unfold seqIndex?
  simp
theorem ixN0 {n : Nat} : ixN (n + 1) 0 = some 0 := ixN_n (j := 0) rfl (by omega)
theorem pos_len (n : Nat) : (0 : Int) < ((n + 1 : Nat) : Int) ↔ True := ⟨fun _ => True.intro, fun _ => by omega⟩
theorem ne_len (n : Nat) : ((n + 1 : Nat) : Int) = 0 ↔ False := ⟨fun h => by omega, False.elim⟩
theorem nodup1 {n : Nat} : [n].Nodup ↔ True := by simp
theorem cut63 {α : Type} {xs : List α} {k : Nat} (h : xs.length ≤ k) : cutD xs none (some (k : Int)) = xs := by
  unfold cutD
  rw [HT.sIx_none, HT.sIx_nat]
  simp [Nat.min_eq_right h]
end QL
set_option Elab.async false
set_option linter.all false
set_option maxRecDepth 100000
set_option maxHeartbeats 4000000
/-! QL8: the law's own head. -/
namespace QL
open PySem L2
theorem rds_ints {K : PySem.W.Frag} {p : Pt} : ∀ ns : List Int, RDs K p (ns.map .int) (ns.map V.int)
  | [] => .nil
  | _ :: r => .cons (.int _) (rds_ints r)
def endD (r : P) (_ : LS) : Prop := r = .d (.bl true)
def endX : EK := fun _ _ => False
theorem end_sp {K : PySem.W.Frag} {H : Hp} {a : Addr} {ns : List Int} {fs : FS} (hO : Only H) (hS : SqL K H a (ns.map V.int)) (hfs : fs [.d (.scr (ns.map .int))] [] endD endX) :
    spQ K 1 fs [.ref a] H (fun v _ => v = .bl true) (fun _ _ _ => False) := by
  have hs : ScrAt K ⟨H, [], fun b => H b ≠ none⟩ a (ns.map V.int) := by
    rcases hS with h | h
    · refine .inl ⟨?_, h⟩
      rcases h with h | ⟨o, h⟩
      · show H a ≠ none
        rw [h]; intro e; cases e
      · show H a ≠ none
        rw [h]; intro e; cases e
    · exact .inr (.inr h)
  have wf : WF ⟨H, [], fun b => H b ≠ none⟩ := ⟨List.nodup_nil, fun a h => absurd h List.not_mem_nil, fun b hb => Option.ne_none_iff_exists'.mp hb⟩
  have ce : Cells K ⟨H, [], fun b => H b ≠ none⟩ [] := ⟨rfl, fun i c h => by simp at h⟩
  have rr : RP K ⟨H, [], fun b => H b ≠ none⟩ (.d (.scr (ns.map .int))) (.ref a) := RD.scr hs (rds_ints ns)
  refine ⟨⟨H, [], fun b => H b ≠ none⟩, _, [], endD, endX, rfl, wf, ce, .cons rr .nil, rfl, hfs, fun d l' v p' _ _ _ r q => ?_, fun ex l' cls dd p' _ _ _ _ q => q.elim⟩
  cases q
  cases r
  rfl
theorem end_cx {P : Program} {w : World} {H : Hp} {s : Shared} {e : Value} {s' : Shared} (h : L2N.CX P w [] H s (fun _ _ _ => False) e s') : False := by
  obtain ⟨_, _, _, _, _, _, _, _, _, _, _, _, h⟩ := h
  exact h
theorem calq {P : Program} {w : World} {K : PySem.W.Frag} {mg : Str → Option Value} {base : Heap} {k : Nat} {x : Str} {n : Nat} {fs : FS} {f : Addr} {fd : FuncData} {st : Stmt} {ps : List Str} (F : Fun K x x st f fd) (hm : mg x = some (.ref f)) (ok : FnOk P w K mg base (L2N.CX P w) k f fd ps (spQ K n fs))
    (h : ∀ (kV doc pm : Value) (an : Option Addr) (cdv ct : Value) (us : List Value), us.length = ps.length → bindArgs (PySem.W.fnOf x x (defArgs st) (defBody st) (defScope st) .none kV doc pm an cdv ct) ⟨us, []⟩ = pure (ps.zip us)) : CalQ P w K mg base k x n fs :=
  ⟨f, fd, ps, ok, hm, F.kp, F.binds h⟩
end QL
set_option Elab.async false
set_option linter.all false
set_option maxRecDepth 100000
set_option maxHeartbeats 4000000
/-! QX1: an own exception class whose __init__ begins with super().__init__('..'). -/
namespace QL
open PySem L2 PySem.Calls PyProof.Rows

/-! ### the bound __init__ is called -/
section
variable {prog : Program} {w : World} {A : Around} {E : Value → Shared → Prop} {s : Shared} {K : PySem.W.Frag} {h : Heap} {g : Array GenState} {d : Drawn} {t : Nat} {os : OsState}
theorem call_mw {B newId i : String} {bmB : List Value} {nm q : Str} {C N : Addr} {bs bm : List Value} {hdct : Bool} {sn : List Str} {sub : List Value} {ab : Bool} {col : Option Bool} {dd : Option Addr} {k0 k1 k2 k3 k5 : Option Value} {u e t0 : Addr} {rest : List Value} {Q : Value → Shared → Prop}
    (FB : ExcBaseFacts B newId i bmB) (hC : h.get? C = some (excClassObj nm q C N bs bm hdct sn sub ab col dd k0 k1 k2 k3 k5 newId)) (he : h.get? e = some (PySem.HandSPX.excO C t0)) (hu : h.get? u = some (PySem.W.kxs_mw i e)) (hrest : rest.length ≤ sizeLine)
    (hq : ∀ h' t1, (∀ b o, b ≠ e → h.get? b = some o → h'.get? b = some o) → h'.get? e = some (PySem.HandSPX.excO C t1) → Q .none ⟨h', g, d, t, os⟩) :
    wpAny (model prog w) A (call (.ref u) rest) Q E ⟨h, g, d, t, os⟩ := by
  refine wpAny_call (codeAny_of_tree ?_)
  show wpAny _ A.in1 (callAny (.ref u) ⟨rest, []⟩) _ _ _
  simp only [callAny]
  refine wpAny_bind (wpAny_load hu ?_)
  simp only [PySem.W.kxs_mw, show (Value.type "method-wrapper" == Value.type "method" || Value.type "method-wrapper" == Value.type "builtin_function_or_method" || Value.type "method-wrapper" == Value.type "method-wrapper") = true by decide, if_true]
  refine W.KFB.if_so (by decide) ?_
  refine wpAny_bind (PySem.W.check_bound_init FB.toExcCallFacts hC he rfl ?_)
  refine wpAny_bind (wpAny_pure (wpAny_pure ?_))
  refine ⟨PySem.plainId_quiet FB.init.plain _, codeAny_builtin FB.initEntry ?_⟩
  exact PySem.W.exc_init_tree (cls := .ref C) (t0 := t0) (dv := none) (c2 := .none) (c3 := .none) (b4 := .bool false) he hrest fun h' k e' _ => hq h' _ k e'
end

/-! ### the context of such an __init__ -/
def cxS (CX : CXT) (P : Program) (w : World) (K : PySem.W.Frag) (mg : Str → Option Value) (base : Heap) (N : List Str) (qual : Str) (scope : Scope) (f : Addr) (cd : Value) (cc : Addr) (A : Around) (outer : List Env) (s : Shared) (H : Hp) (E : XK) : Cx where
  prog := P
  w := w
  K := K
  mg := mg
  base := base
  A := A.deeper (PySem.W.ksEnv qual scope s.heap.objs.size f cd cc)
  N := N
  s_0 := s
  H_0 := H
  env := PySem.W.ksEnv qual scope s.heap.objs.size f cd cc
  outer := outer
  stack := PySem.W.ksEnv qual scope s.heap.objs.size f cd cc :: outer
  ex := []
  calm := true
  fn := fun _ => false
  pn := []
  xe := fun e s' => wpAny (model P w) (A.deeper (PySem.W.ksEnv qual scope s.heap.objs.size f cd cc)) (leaving (PySem.W.ksEnv qual scope s.heap.objs.size f cd cc) e) (fun _ s'' => CX outer H s E e s'') (fun e' s'' => CX outer H s E e' s'') s'
structure SupScope (N ps : List Str) (sc : Scope) : Prop where
  kind : sc.kind = .function
  co : sc.isCoroutine = false
  gen : sc.isGenerator = false
  nd : N.Nodup
  pre : N.take ps.length = ps
  par : ∀ x ∈ ps, sc.names.lookup x = some .local
  nocell : ∀ y ∈ sc.names, y.2 ≠ .cell
  free : ∀ y ∈ sc.names, y.2 = .free → y.1 = "__class__"
  sup : sc.names.lookup ("super" : Str) = some .globalImplicit
  cls : sc.names.lookup ("__class__" : Str) = some .free

theorem zip_look {x : Str} {v : Value} : ∀ {P : List Str} {vs : List Value} {i : Nat}, P.Nodup → P[i]? = some x → vs[i]? = some v → (P.zip vs).reverse.lookup x = some v
  | [], _, _, _, h, _ => by simp at h
  | _ :: _, [], _, _, _, h => by simp at h
  | p :: P, w :: vs, 0, nd, h1, h2 => by
    simp at h1 h2; subst h1; subst h2
    rw [List.zip_cons_cons, List.reverse_cons, List.lookup_append]
    have : (P.zip vs).reverse.lookup p = none := by
      rw [List.lookup_eq_none_iff]
      intro y hy
      have hy := List.of_mem_zip (List.mem_reverse.mp hy)
      have : y.1 ≠ p := fun e => (List.nodup_cons.mp nd).1 (e ▸ hy.1)
      simpa [bne_iff_ne] using fun e : p = y.1 => this e.symm
    rw [this]
    simp
  | p :: P, w :: vs, i + 1, nd, h1, h2 => by
    rw [List.zip_cons_cons, List.reverse_cons, List.lookup_append, zip_look (i := i) (List.nodup_cons.mp nd).2 (by simpa using h1) (by simpa using h2)]
    rfl
theorem inv_sup {CX : CXT} {P : Program} {w : World} {K : PySem.W.Frag} {mg : Str → Option Value} {base : Heap} {N ps : List Str} {qual : Str} {scope : Scope} {f cc : Addr} {cd : Value} {A : Around} {outer : List Env} {s : Shared} {H : Hp} {E : XK} {us : List Value} {vs : List V} {h1 : Heap} {tk : Nat} {cl : Value} {cld : Option Addr} {csl : Array (Option Value)} {C : Addr}
    (S : SupScope N ps scope) (hcell : K.lookup cc = some ⟨cl, cld, .cell (some (.ref C)), csl⟩) (hd : A.handled = none) (e0 : Env0 P w K mg base A outer s H) (hl : vs.length = ps.length) (r : Vals vs us)
    (hns : h1.Ns s.heap.objs.size (fun x => (ps.zip us).reverse.lookup x)) (hk : ∀ b o, s.heap.get? b = some o → h1.get? b = some o) :
    Inv (cxS CX P w K mg base N qual scope f cd cc A outer s H E) [] (start N vs) H { s with heap := h1, toks := tk } := by
  have hpl : ps.length ≤ N.length := by have := congrArg List.length S.pre; rw [List.length_take] at this; omega
  have noA : ∀ b : Addr, b ∉ (cxS CX P w K mg base N qual scope f cd cc A outer s H E).ex := fun b z => absurd (show b ∈ ([] : List Addr) from z) (by simp)
  have one : ∀ (x : Str) (c : Addr), ([("__class__", cc)] : List (Str × Addr)).lookup x = some c → x = "__class__" ∧ c = cc := fun x c h => by
    by_cases e : x = "__class__"
    · subst e
      simp at h
      exact ⟨rfl, h.symm⟩
    · rw [List.lookup_cons, show (x == ("__class__" : Str)) = false by simpa using e] at h
      cases h
  have hcb : base.get? cc = some ⟨cl, cld, .cell (some (.ref C)), csl⟩ := e0.mod.kin _ _ hcell
  have hcs := e0.bs _ _ hcb
  refine ⟨⟨e0.mod, S.kind, rfl, rfl, Nat.le_refl _, fun y z c h1 h2 => ?_, fun y hy => ?_, fun y c z _ => absurd (show false = true from z) (by decide), fun _ => hd, Around.frames_deeper e0.frames, .inr ⟨rfl, rfl⟩, fun b z => absurd z (noA b), e0.bs, e0.bsz, fun b _ _ => noA b, fun b z => absurd z (noA b), e0.funs, e0.frf⟩,
    rfl, e0.bare, Un.kept hk, ⟨_, hns, fun i y v h1 h2 h3 => ?_⟩, fun y c h => ?_, e0.hok.fresh (Nat.le_refl _), fun y c h => ?_, fun p hp => absurd (show p ∈ ([] : List (Addr × Obj)) from hp) (by simp), e0.hok.kept hk, ?_⟩
  · rw [(one _ _ h1).1, (one _ _ h2).1]
  · have hy : scope.names.lookup y = some .cell ∨ scope.names.lookup y = some .free := hy
    rcases hy with hy | hy
    · exact absurd rfl (S.nocell _ (PySem.mem_of_lookup hy))
    · have e : y = "__class__" := S.free (y, .free) (PySem.mem_of_lookup hy) rfl
      subst e
      exact ⟨cc, rfl⟩
  · have hi : i < vs.length := by
      unfold L2.start at h2
      by_cases hi : i < vs.length
      · exact hi
      · rw [List.getElem?_append_right (by simpa using hi)] at h2
        rw [List.getElem?_replicate] at h2
        split at h2 <;> cases h2
    have ha : vs[i]? = some v := by
      unfold L2.start at h2
      rw [List.getElem?_append_left (by simpa using hi), List.getElem?_map] at h2
      cases e : vs[i]? with
      | none => rw [e] at h2; cases h2
      | some a => rw [e] at h2; cases h2; rfl
    obtain ⟨u, hu, rv⟩ := r.get ha
    have hp : ps[i]? = some y := by
      rw [← S.pre, List.getElem?_take_of_lt (by omega)]; exact h1
    have ndP : ps.Nodup := by rw [← S.pre]; exact S.nd.sublist (List.take_sublist _ _)
    exact ⟨u, rv, .inl ⟨S.par y (List.mem_of_getElem? hp), zip_look ndP hp hu⟩⟩
  · obtain ⟨rfl, rfl⟩ := one _ _ h
    exact ⟨_, _, hk _ _ hcs.1, rfl⟩
  · obtain ⟨rfl, rfl⟩ := one _ _ h
    exact hcs.2
  · unfold L2.start
    show _ = N.length
    rw [List.length_append, List.length_map, List.length_replicate]
    omega

theorem fn_super {CX : CXT} {P : Program} {w : World} {K : PySem.W.Frag} {mg : Str → Option Value} {base : Heap} {k : Nat} {f cda cc C : Addr} {name qual msg : Str} {params : Arguments} {rest : List Stmt} {scope : Scope} {z : Nat} {p0 p1 p2 p3 p4 pz : Pos} {dV kV doc pm ct oc ccl cl : Value} {an od cdd cld : Option Addr}
    {osl ccs csl : Array (Option Value)} {vs0 : Array Value} {file : Str} {tf : Tok} {ar : Arg} {N ps : List Str} {sp : Sp}
    (lk : K.lookup f = some ⟨oc, od, .func (PySem.W.ksFn name qual params (.Expr (.Call (.Attribute (.Call (.Name "super" p0) [] [] p1) "__init__" p2) [.Constant (.str msg) z pz] [] p3) p4 :: rest) scope dV kV doc pm an (.ref cda) ct cc), osl⟩)
    (hcd : PySem.W.codeIn K (.ref cda) qual = true) (hcode : K.lookup cda = some ⟨ccl, cdd, .fields vs0, ccs⟩) (hvs : vs0[2]? = some (.str file tf)) (hfile : ((P.main.file : Str) == file) = true) (htop : (P.main.scope.names.lookup ("super" : Str)).isSome = false)
    (hcell : K.lookup cc = some ⟨cl, cld, .cell (some (.ref C)), csl⟩) (T : OexC K C) (hsi : PySem.W.ks_superIn K C C "__init__" = some (some (.builtin "ValueError.__init__"))) (hB : PySem.W.subIn K (.ref C) (.type "ValueError") = some true)
    (hop : PySem.W.nsIn K cStatics "thirdparty.any" = some none) (hmg : mg "super" = none)
    (hev : ∀ env : Env, ∃ pl : Sem Bool, eval (.Call (.Attribute (.Call (.Name "super" p0) [] [] p1) "__init__" p2) [.Constant (.str msg) z pz] [] p3) env = (do
      let ov ← attributeBase (.Call (.Name "super" p0) [] [] p1) "__init__" env (eval (.Call (.Name "super" p0) [] [] p1) env)
      standAt p2.atName
      let (f, first) ← holding [ov] (getMethod ov "__init__" pl)
      callWith p3 f first (backTo p3 (starEach [.Constant (.str msg) z pz] env)) []))
    (S : SupScope N ps scope) (hp : (params.posonlyargs ++ params.args).head? = some ar) (h0 : ps[0]? = some ar.arg) (len : ∀ vs H Q E, sp vs H Q E → vs.length = ps.length)
    (hbody : ∀ (A : Around) (outer : List Env) (s : Shared) (H : Hp) (vs : List V) (Q : VK) (E : XK), Room k (A.deeper (PySem.W.ksEnv qual scope s.heap.objs.size f (.ref cda) cc)) → sp vs H Q E →
      (∃ a vs', vs = .ref a :: vs' ∧ H a = some (exo a C none)) ∧ ∃ t, PSs (cxS CX P w K mg base N qual scope f (.ref cda) cc A outer s H E) rest t ∧ t { nx := fun _ H' => Q .non H', rt := Q } (L2.start N vs) H) :
    FnOk P w K mg base CX (k + 1) f (PySem.W.ksFn name qual params (.Expr (.Call (.Attribute (.Call (.Name "super" p0) [] [] p1) "__init__" p2) [.Constant (.str msg) z pz] [] p3) p4 :: rest) scope dV kV doc pm an (.ref cda) ct cc) ps sp := by
  refine ⟨len, fun A outer s H args us vs Q E hr e0 hb r hsp => ?_⟩
  have hl := len _ _ _ _ hsp
  have KX : K.In s.heap := e0.mod.kin.keeps fun b o e => (e0.bs b o e).1
  have lim : s.heap.NoLimit := e0.mod.nolimit.keeps fun b o e => (e0.bs b o e).1
  have hloc : ∀ y ∈ ps.zip us, scope.names.lookup y.1 = some .local := fun ⟨n, v⟩ hy => S.par n (List.of_mem_zip hy).1
  refine ks_codeAny_call_defAt hr.depth (KX _ _ lk) rfl lim (PySem.W.codeRec_of KX hcd) rfl hb S.nocell hloc (fun h₁ hns hk => ?_) S.co S.gen S.kind
  obtain ⟨⟨a, vs', rfl, ea⟩, t, ht, hq⟩ := hbody A outer s H vs Q E (hr.deeper _) hsp
  have I := inv_sup (CX := CX) (E := E) (f := f) (cd := .ref cda) (qual := qual) (tk := s.toks + (ps.zip us).length) S hcell hr.hd e0 hl r hns hk
  obtain ⟨mb, hmb, hboot⟩ := e0.mod.blt
  obtain ⟨nm, q, N0, bs, bm, sn, sub, ab, col, dd, k0, k1, k2, k3, k5, hC, hbm⟩ := T.cls
  have hcl : PySem.W.clsIn K C = some { name := nm, bases := bs, mro := .ref C :: bm, ns := N0, qualname := q, hasDict := true, slotNames := sn, subclasses := sub, abstract := ab, collection := col, hasDel := false } := by unfold PySem.W.clsIn; rw [hC] <;> rfl
  have K1 : K.In h₁ := I.kIn
  obtain ⟨t0, ho⟩ := exo_at I.hok ea
  have hself : ∃ u0 ur, us = u0 :: ur ∧ u0 = .ref a := by
    cases r with
    | @cons _ u0 _ ur ra rw' => exact ⟨u0, ur, rfl, ra⟩
  obtain ⟨u0, ur, rfl, rfl⟩ := hself
  have ndP : ps.Nodup := by rw [← S.pre]; exact S.nd.sublist (List.take_sublist _ _)
  obtain ⟨pl, hev⟩ := hev (PySem.W.ksEnv qual scope s.heap.objs.size f (.ref cda) cc)
  refine ks_wpAt_execs_cons (ks_wpAt_Expr_any (ks_wpAt_MethodCall (pl := pl) ?_ hev) ?_ ?_)
  rotate_left
  · exact I.quiet
  · rfl
  refine ks_wpAt_super_base (by exact S.sup) (by exact S.cls) (by decide) rfl (K1 _ _ lk) rfl hp rfl (K1 _ _ hcode) rfl hvs hfile htop ?_
  refine PySem.W.ks_loadName_global S.kind S.sup (loadGlobal_builtin (mg := mg) (mb := mb) ?_ hmg ?_ ((hboot _ (by decide)).trans rfl) ⟨rfl, ?_⟩)
  · exact e0.mod.glob.keeps I.bk
  · exact hmb.keeps I.bk
  have hcc1 := K1 _ _ hcell
  refine wpAny_loadName_free S.kind S.cls rfl ⟨_, hcc1, rfl⟩ ?_
  refine wpAny_loadName_local S.kind (S.par _ (List.mem_of_getElem? h0)) hns (zip_look ndP h0 rfl) ?_
  have hC1 := K1 _ _ hC
  refine ks_wpAny_isType_cls hC1 rfl ⟨rfl, ?_⟩
  have hsub : PySem.W.mroIn K C (.ref C) = some true := by
    unfold PySem.W.mroIn
    rw [hcl]
    simp
  refine ks_wpAny_call_super hC1 rfl ho rfl (fun c e => by cases e) (PySem.W.looks_mroIn K1 hsub) (fun h2 e2 k2 => ?_)
  have I2 : Inv (cxS CX P w K mg base N qual scope f (.ref cda) cc A outer s H E) [] (L2.start N (V.ref a :: vs')) H ⟨h2, s.gens, s.drawn, s.toks + (ps.zip (Value.ref a :: ur)).length, s.os⟩ := I.kept k2
  have K2 : K.In h2 := I2.kIn
  have hne : a ≠ C := by
    rintro rfl
    rw [hC1] at ho
    cases ho
  have I2a : PySem.W.InstAt h2 a _ C none := ⟨k2 _ _ ho, rfl, rfl, trivial⟩
  have hal : PySem.W.alongIn K "__init__" ((((Value.ref C) :: bm).dropWhile (· != .ref C)).drop 1) = some (some (.builtin "ValueError.__init__")) := by
    have := hsi
    unfold PySem.W.ks_superIn at this
    rw [hcl] at this
    exact this
  refine PySem.W.kxs_getMethod PySem.W.kxs_ValueError e2 (PySem.W.looks_opaque K2 hop) (l₀ := .ref C :: bm) (fun A Q E s k q => wpAny_bind ((PySem.W.looks_clsIn K2 hcl) A _ E s k (wpAny_pure q))) rfl K2 hal (I2a.type.andThen (PySem.W.looks_subIn K2 hB)) hne (by decide) ?_
  have k3 : ∀ b o, h2.get? b = some o → (h2.push (PySem.W.kxs_mw "ValueError.__init__" a)).get? b = some o := fun b o e => Heap.get?_push_of_some _ e
  have I3 : Inv (cxS CX P w K mg base N qual scope f (.ref cda) cc A outer s H E) [] (L2.start N (V.ref a :: vs')) H ⟨h2.push (PySem.W.kxs_mw "ValueError.__init__" a), s.gens, s.drawn, s.toks + (ps.zip (Value.ref a :: ur)).length + 1, s.os⟩ := I2.kept k3
  have hu3 : (h2.push (PySem.W.kxs_mw "ValueError.__init__" a)).get? h2.objs.size = some (PySem.W.kxs_mw "ValueError.__init__" a) := Heap.get?_push_at rfl rfl
  have ha : PA (cxS CX P w K mg base N qual scope f (.ref cda) cc A outer s H E) [.Constant (.str msg) z pz] (tCons (tC (.str msg)) tNil) := pa_cons pe_str pa_nil
  have I3' : Inv (cxS CX P w K mg base N qual scope f (.ref cda) cc A outer s H E) [(h2.objs.size, PySem.W.kxs_mw "ValueError.__init__" a)] (L2.start N (V.ref a :: vs')) H ⟨h2.push (PySem.W.kxs_mw "ValueError.__init__" a), s.gens, s.drawn, s.toks + (ps.zip (Value.ref a :: ur)).length + 1, s.os⟩ :=
    I3.pins_of fun p hp => by
      obtain rfl := List.mem_singleton.mp hp
      exact ⟨hu3, I2.hok.fresh (Nat.le_refl _), Nat.ne_of_gt I2.lt, I2.nofs (Nat.le_refl _), fun v e => by cases e⟩
  refine PySem.W.kxs_callWith (i := "ValueError.__init__") (x := a) (u := h2.objs.size) rfl (evalArgs_plain (thn (ha.run p3 _ _ _ H (fun vs H1 => vs = [.str msg] ∧ H1 = H) I3' ⟨rfl, rfl⟩) fun us1 s4 ⟨vs4, H4, I4, r4, e4, e5⟩ => ?_))
  subst e4
  rw [e5] at I4
  have hu4 : s4.heap.get? h2.objs.size = some (PySem.W.kxs_mw "ValueError.__init__" a) := (I4.pin (h2.objs.size, PySem.W.kxs_mw "ValueError.__init__" a) (List.mem_append_right _ (List.mem_singleton_self _))).1
  refine ⟨hu4, ?_⟩
  obtain ⟨t4, ho4⟩ := exo_at I4.hok ea
  obtain ⟨h4, g4, d4, tk4, os4⟩ := s4
  have hlen : us1.length ≤ sizeLine := by
    rw [← Paired.length r4, sizeLine_eq]
    exact (show 1 ≤ 16777216 by decide)
  refine call_mw F.excBase_ValueError (I4.kIn _ _ hC) ho4 hu4 (by simpa using hlen) fun h5 t5 k5 hx5 => ?_
  have J := I4.unpinned (pins := []) |>.write (t' := tk4) (x := a) (e := a) (o := exo a C none) (by rw [ea]; exact True.intro) (.inl rfl) k5 ⟨_, hx5⟩ (exo_ok hx5)
  have eu : upd H a (exo a C none) = H := by
    funext b
    by_cases hb : b = a
    · rw [hb, upd_same, ea]
    · rw [upd_ne hb]
  rw [eu] at J
  refine wpAt_of_wpAny (wpAny_mono (ht.run [] _ (L2.start N (V.ref a :: vs')) H _ J hq) (fun fl s' hs => ?_) fun e s' hs => hs)
  have fin : ∀ {σ' : L2.St} {H' : Hp} {v : V} {u : Value}, Inv (cxS CX P w K mg base N qual scope f (.ref cda) cc A outer s H E) [] σ' H' s' → RelV v u → Q v H' → CE outer P w H s Q u s' :=
    fun {σ' H' v u} J rv q => ⟨v, H', J.os, J.bare, J.base, J.hok, rv, q⟩
  cases fl with
  | ret u =>
    obtain ⟨v, σ', H', J, rv, q⟩ := hs
    exact fin J rv q
  | next =>
    obtain ⟨σ', H', J, q⟩ := hs
    exact fin (v := V.non) (u := Value.none) J rfl q
  | brk =>
    obtain ⟨_, _, _, q⟩ := hs
    exact False.elim q
  | cont =>
    obtain ⟨_, _, _, q⟩ := hs
    exact False.elim q
end QL
set_option Elab.async false
set_option linter.all false
set_option maxRecDepth 100000
set_option maxHeartbeats 4000000
/-! QX2: raise of an own exception, over plain data. -/
namespace QL
open PySem L2

/-- the class at C is called: its __init__ runs, its exception's context is None -/
theorem mk_oexN {X : Cx} {e : Expr} {es : List Expr} {ta : TA} {pos q : Pos} {CX : CXT} {x : Str} {C fI : Addr} {k : Nat} {fd : FuncData} {ps : List Str} {sp : Sp} (T : OexC X.K C) (iC : PySem.W.findIn X.K (.ref C) "__init__" = some (some (.ref fI))) (tI : PySem.W.typeIn X.K (.ref fI) = some (.type "function"))
    (F1 : FnOk X.prog X.w X.K X.mg X.base CX k fI fd ps sp) (hr : Room (k + 1) X.A) (hb : Binds X.K fd ps []) (hx : Passes CX X (fun _ _ _ => False)) (hg : Gl X x) (hm : X.mg x = some (.ref C)) (ha : PA X (e :: es) ta)
    (hdb : (x == ("__debug__" : Str)) = false := by decide) (he : starEach (e :: es) X.env = (false, eval e X.env) :: starEach es X.env := by rfl) (hpl : (backTo pos (starEach es X.env)).any (·.1) = false := by rfl) :
    L2N.PMk X (.Call (.Name x q) (e :: es) [] pos) (tMkO C sp [] ta) := by
  intro pins s σ H Q I h
  obtain ⟨nm, qn, N, bs, bm, sn, sub, ab, col, dd, k0, k1, k2, k3, k5, hC, hbm⟩ := T.cls
  refine wpAny_Call_Name_kw (ld_glob I hg hm ?_ hdb)
  refine PySem.W.callWith_K (h₀ := X.base) I.ok.mod.kin T.kC (thn (ha.run pos pins s σ H _ I h) fun us s1 ⟨vs, H1, I1, r1, hz, q1⟩ => ⟨I1.kIn, ?_⟩) he hpl
  show wpAny _ _ (call (.ref C) us) _ _ _
  obtain ⟨hp, g, dr, tk, os⟩ := s1
  have up : hp.objs.size ≤ hp.objs.size + 1 := Nat.le_succ _
  have hq := q1 (hp.objs.size + 1) (I1.hok.fresh up)
  rw [List.append_nil] at hq
  have kk : ∀ b o, hp.get? b = some o → ((hp.push (PySem.W.kdv_tup us)).push (PySem.HandSPX.excO C hp.objs.size)).get? b = some o := fun b o e => Heap.get?_push_of_some _ (Heap.get?_push_of_some _ e)
  have I2 : Inv X pins σ (upd H1 (hp.objs.size + 1) (exo (hp.objs.size + 1) C none)) ⟨(hp.push (PySem.W.kdv_tup us)).push (PySem.HandSPX.excO C hp.objs.size), g, dr, tk, os⟩ :=
    I1.laid (t' := tk) (a := hp.objs.size + 1) (o := exo (hp.objs.size + 1) C none) (h' := (hp.push (PySem.W.kdv_tup us)).push (PySem.HandSPX.excO C hp.objs.size)) kk up (exo_ok (by heap_get))
  have r2 : Vals (V.ref (hp.objs.size + 1) :: vs) (Value.ref (hp.objs.size + 1) :: us) := .cons rfl r1
  have hl : (Value.ref (hp.objs.size + 1) :: us).length = ps.length := (Paired.length r2).symm.trans (F1.len _ _ _ _ hq)
  have hbb := hb _ (Value.ref (hp.objs.size + 1) :: us) I2.kIn (by rw [List.append_nil]; exact hl)
  rw [List.append_nil] at hbb
  refine wpAny_call (PySem.HandSPX.call_own F.excBase_ValueError (fun Y => PySem.HandSPX.refsVE_contains Y bm hbm) (I1.kIn _ _ hC) (PySem.W.looks_findIn I1.kIn iC) (fun self => PySem.W.bind_fn I1.kIn self tI) (by rw [← Paired.length r1, sizeLine_eq]; omega)
    (codeAny_mono (F1.run _ X.stack _ _ ⟨Value.ref (hp.objs.size + 1) :: us, []⟩ (Value.ref (hp.objs.size + 1) :: us) _ _ (fun _ _ _ => False) (hr.make C us []) (I2.env0.make C us []) hbb r2 hq) fun r s' hq' => ?_))
  cases r with
  | error er => exact hx pins σ _ _ er s' I2 hq'
  | ok fl =>
    cases fl with
    | ret u =>
      obtain ⟨v, H2, os2, bare2, un2, hok2, rv, ev, d, fs, ea, ed, hd1, q2⟩ := hq'
      subst ev
      obtain ⟨h2, g2, d2, t2, os'⟩ := s'
      obtain ⟨t0, G, J, kG, ge, hoe, na⟩ := mk_end0 (d2 := d2) (t2 := t2) I1 up kk un2 hok2 os2 bare2 ea ed hd1
      exact ⟨rv, _, _, _, ⟨G, g2, d2, t2, os'⟩, _, .ref C, some d, rfl, J, kG, ge, hoe, ⟨rfl, rfl, fun vs z => by cases z; rfl⟩, rfl, rfl, na, rfl, bare2, raises_own T.exC T.tyC, q2⟩
    | next => exact False.elim hq'
    | brk => exact False.elim hq'
    | cont => exact False.elim hq'
/-- what an __init__ with plain stores keeps: ns the fields in the order of the stores -/
def spI (C : Addr) (ns : List Str) : Sp := fun vs H Q _ => ∃ (a : Addr) (ws : List V), vs = .ref a :: ws ∧ ws.length = ns.length ∧ H a = some (exo a C none) ∧
  ∀ dx, H dx = none → dx ≠ a → Q .non (upd (upd H dx (exd dx (ns.zip ws).reverse)) a (exo a C (some dx)))
/-- a class of the module that is made with n arguments -/
def MkQ (P : Program) (w : World) (K : PySem.W.Frag) (mg : Str → Option Value) (base : Heap) (k : Nat) (x : Str) (ns : List Str) : Prop :=
  ∃ fI fd ps, OexC K (clsA K x) ∧ PySem.W.findIn K (.ref (clsA K x)) "__init__" = some (some (.ref fI)) ∧ PySem.W.typeIn K (.ref fI) = some (.type "function") ∧ FnOk P w K mg base (L2N.CX P w) k fI fd ps (spI (clsA K x) ns) ∧ Binds K fd ps [] ∧ mg x = some (.ref (clsA K x))
section
variable {X : Cx} {W : WX} {e : Expr} {es : List Expr} {ws : WA} {pos q pos' : Pos} {x : Str} {k j : Nat} {ns : List Str}
def kRaise (x : Str) (ns : List Str) (D : ED) (σ : SS) (vs : List P) (l : LS) : Prop := ∃ ds, asDs vs = some ds ∧ ds.length = ns.length ∧ ns.length ≤ 1000 ∧ D.ex (.own x ns.reverse ds.reverse) σ l
def wRaise (x : Str) (ns : List Str) (ws : WA) (D : ED) (σ : SS) (l : LS) : Prop := ws σ l (kRaise x ns D σ) (exK D σ)
theorem zip_rev {α β : Type} : ∀ {xs : List α} {ys : List β}, ys.length = xs.length → (xs.zip ys).reverse = xs.reverse.zip ys.reverse
  | [], [], _ => rfl
  | x :: xs, y :: ys, h => by
    have h' : ys.length = xs.length := by simpa using h
    rw [List.zip_cons_cons, List.reverse_cons, List.reverse_cons, List.reverse_cons, zip_rev h', List.zip_append (by simp [h'])]
    rfl
theorem qs_raise (hc : X.calm = true) (c : MkQ X.prog X.w X.K X.mg X.base k x ns) (hr : Room j X.A) (hk : k + 1 ≤ j) (tk : L2N.Takes X W) (hg : Gl X x) (ha : QA X W (e :: es) ws)
    (hdb : (x == ("__debug__" : Str)) = false := by decide) (he : starEach (e :: es) X.env = (false, eval e X.env) :: starEach es X.env := by rfl) (hpl : (backTo pos (starEach es X.env)).any (·.1) = false := by rfl) :
    QS X W (.Raise (some (.Call (.Name x q) (e :: es) [] pos)) none pos') (wRaise x ns ws) := by
  obtain ⟨fI, fd, ps, T, iC, tI, F1, hb, hm⟩ := c
  refine PS.imp (L2N.ps_raise hc tk (mk_oexN T iC tI F1 (hr.mono hk) hb (L2N.passes_call tk fun _ _ _ _ z => z.elim) hg hm ha hdb he hpl)) fun D σ H h => ?_
  obtain ⟨p, σd, l, Dd, hH, R, hw, kk⟩ := h
  subst hH
  refine cA_ok R hw kk.link fun vs l1 us p1 e1 R1 r1 ⟨ds, eds, hl, hn, q⟩ => ?_
  have rd := asDs_ok r1 eds
  have hul : us.length = ns.length := by rw [← rd.len, hl]
  refine ⟨by rw [hul]; exact hn, fun a hna => ⟨a, us ++ [], rfl, by rw [List.append_nil]; exact hul, upd_same, fun dx hd hne => ?_⟩⟩
  have hd1 : p1.H dx = none := by rw [upd_ne hne] at hd; exact hd
  rw [List.append_nil]
  refine ⟨rfl, dx, (ns.zip us).reverse, upd_same, by rw [upd_ne hne, upd_same], hd1, ?_⟩
  have eH : upd (del (upd (upd (upd p1.H a (exo a (clsA X.K x) none)) dx (exd dx (ns.zip us).reverse)) a (exo a (clsA X.K x) (some dx))) a) dx (.xd (ns.zip us).reverse) = (p1.frz dx (.xd (ns.zip us).reverse)).H := by
    funext b
    show upd _ _ _ b = upd p1.H dx _ b
    by_cases hb : b = dx
    · rw [hb, upd_same, upd_same]
    · rw [upd_ne hb, upd_ne hb]
      by_cases hba : b = a
      · rw [hba, del_same, hna]
      · rw [del_ne hba, upd_ne hba, upd_ne hb, upd_ne hba]
  rw [eH]
  have e2 := ext_frz (p := p1) (o := .xd (ns.zip us).reverse) hd1
  have w2 := wf_frz (p := p1) (a := dx) (o := .xd (ns.zip us).reverse) R1.wf
  have R2 := R1.ext e2 w2 (Cells.frz R1.wf R1.ce hd1)
  refine kk.ex (p1.frz dx (.xd (ns.zip us).reverse)) σ σd l1 (.own x ns.reverse ds.reverse) _ _ (e1.trans e2) R2 ⟨rfl, dx, us.reverse, rfl, .inr rfl, ?_, (rd.mono e2.hf).reverse⟩ q
  show upd _ _ _ _ = _
  rw [upd_same, zip_rev hul]
end
end QL
set_option Elab.async false
set_option linter.all false
set_option maxRecDepth 100000
set_option maxHeartbeats 4000000
/-! QX3: the __init__ of an own exception class with one or two stores. -/
namespace QL
open PySem L2

/-- what of K's objects such an __init__ needs; st is the def's statement -/
structure SupI (P : Program) (K : PySem.W.Frag) (mg : Str → Option Value) (C : Addr) (st : Stmt) (qual : Str) (f : Addr) (fd : FuncData) : Prop where
  ex : ∃ (oc : Value) (od : Option Addr) (kV doc pm : Value) (an : Option Addr) (cda cc : Addr) (ct : Value) (osl : Array (Option Value)) (ccl cl : Value) (cdd cld : Option Addr) (ccs csl : Array (Option Value)) (vs0 : Array Value) (file : Str) (tf : Tok),
    fd = PySem.W.ksFn "__init__" qual (defArgs st) (defBody st) (defScope st) .none kV doc pm an (.ref cda) ct cc ∧ K.lookup f = some ⟨oc, od, .func fd, osl⟩ ∧ PySem.W.codeIn K (.ref cda) qual = true ∧
    K.lookup cda = some ⟨ccl, cdd, .fields vs0, ccs⟩ ∧ vs0[2]? = some (.str file tf) ∧ ((P.main.file : Str) == file) = true ∧ K.lookup cc = some ⟨cl, cld, .cell (some (.ref C)), csl⟩
  htop : (P.main.scope.names.lookup ("super" : Str)).isSome = false
  T : OexC K C
  hsi : PySem.W.ks_superIn K C C "__init__" = some (some (.builtin "ValueError.__init__"))
  hB : PySem.W.subIn K (.ref C) (.type "ValueError") = some true
  hop : PySem.W.nsIn K cStatics "thirdparty.any" = some none
  hmg : mg "super" = none
/-- what is read off the def's text -/
structure SupT (st : Stmt) (N ps : List Str) (rest : List Stmt) : Prop where
  bd : ∃ (p0 p1 p2 p3 p4 pz : Pos) (msg : Str) (z : Nat), defBody st = .Expr (.Call (.Attribute (.Call (.Name "super" p0) [] [] p1) "__init__" p2) [.Constant (.str msg) z pz] [] p3) p4 :: rest ∧
    (∀ env : Env, ∃ pl : Sem Bool, eval (.Call (.Attribute (.Call (.Name "super" p0) [] [] p1) "__init__" p2) [.Constant (.str msg) z pz] [] p3) env = (do
      let ov ← attributeBase (.Call (.Name "super" p0) [] [] p1) "__init__" env (eval (.Call (.Name "super" p0) [] [] p1) env)
      standAt p2.atName
      let (f, first) ← holding [ov] (getMethod ov "__init__" pl)
      callWith p3 f first (backTo p3 (starEach [.Constant (.str msg) z pz] env)) []))
  S : SupScope N ps (defScope st)
  ar : ∃ ar, ((defArgs st).posonlyargs ++ (defArgs st).args).head? = some ar ∧ ps[0]? = some ar.arg
section
variable {P : Program} {w : World} {K : PySem.W.Frag} {mg : Str → Option Value} {base : Heap} {C f : Addr} {fd : FuncData} {st : Stmt} {qual a1 a2 n1 n2 : Str} {q1 q2 q3 q4 r1 r2 r3 r4 : Pos}
theorem fn_sup {N ps : List Str} {rest : List Stmt} {sp : Sp} {k : Nat} (F : SupI P K mg C st qual f fd) (G : SupT st N ps rest) (len : ∀ vs H Q E, sp vs H Q E → vs.length = ps.length)
    (hbody : ∀ (cda cc : Addr) (A : Around) (outer : List Env) (s : Shared) (H : Hp) (vs : List V) (Q : VK) (E : XK), Room k (A.deeper (PySem.W.ksEnv qual (defScope st) s.heap.objs.size f (.ref cda) cc)) → sp vs H Q E →
      (∃ a vs', vs = .ref a :: vs' ∧ H a = some (exo a C none)) ∧ ∃ t, PSs (cxS (L2N.CX P w) P w K mg base N qual (defScope st) f (.ref cda) cc A outer s H E) rest t ∧ t { nx := fun _ H' => Q .non H', rt := Q } (L2.start N vs) H) :
    FnOk P w K mg base (L2N.CX P w) (k + 1) f fd ps sp := by
  obtain ⟨oc, od, kV, doc, pm, an, cda, cc, ct, osl, ccl, cl, cdd, cld, ccs, csl, vs0, file, tf, rfl, lk, hcd, hcode, hvs, hfile, hcell⟩ := F.ex
  obtain ⟨p0, p1, p2, p3, p4, pz, msg, z, eb, hev⟩ := G.bd
  obtain ⟨ar, hp, h0⟩ := G.ar
  rw [eb] at lk ⊢
  exact fn_super lk hcd hcode hvs hfile F.htop hcell F.T F.hsi F.hB F.hop F.hmg hev G.S hp h0 len fun A outer s H vs Q E hr h => hbody cda cc A outer s H vs Q E hr h
theorem init1 (F : SupI P K mg C st qual f fd) (G : SupT st ["self", a1] ["self", a1] [.Assign [.Attribute (.Name "self" q1) n1 q2] (.Name a1 q3) q4]) (h1 : PySem.W.findIn K (.ref C) n1 = some none)
    (d1 : (a1 == ("__debug__" : Str)) = false) (c1 : (a1 == ("__classdict__" : Str)) = false) : FnOk P w K mg base (L2N.CX P w) 1 f fd ["self", a1] (spI C [n1]) := by
  refine fn_sup F G (fun vs H Q E h => ?_) fun cda cc A outer s H vs Q E hr h => ?_
  · obtain ⟨a, ws, rfl, hl, _⟩ := h
    simp [hl]
  · obtain ⟨a, ws, rfl, hl, ea, q⟩ := h
    obtain ⟨v, rfl⟩ : ∃ v, ws = [v] := by
      match ws, hl with
      | [v], _ => exact ⟨v, rfl⟩
    have vs0 : Vis (defScope st) "self" := .inl (G.S.par _ List.mem_cons_self)
    have vs1 : Vis (defScope st) a1 := .inl (G.S.par _ (List.mem_cons_of_mem _ List.mem_cons_self))
    refine ⟨⟨a, _, rfl, ea⟩, _, pss_one (ps_ost (pe_var (i := 0) rfl vs0) (pe_var (i := 1) rfl vs1 d1 c1)), ?_⟩
    refine ⟨v, rfl, .ref a, rfl, a, C, rfl, F.T, h1, .inl ⟨ea, fun dx hd hne => ?_⟩⟩
    exact q dx hd hne
theorem init2 (F : SupI P K mg C st qual f fd) (G : SupT st ["self", a1, a2] ["self", a1, a2] [.Assign [.Attribute (.Name "self" q1) n1 q2] (.Name a1 q3) q4, .Assign [.Attribute (.Name "self" r1) n2 r2] (.Name a2 r3) r4])
    (h1 : PySem.W.findIn K (.ref C) n1 = some none) (h2 : PySem.W.findIn K (.ref C) n2 = some none)
    (d1 : (a1 == ("__debug__" : Str)) = false) (c1 : (a1 == ("__classdict__" : Str)) = false) (d2 : (a2 == ("__debug__" : Str)) = false) (c2 : (a2 == ("__classdict__" : Str)) = false) : FnOk P w K mg base (L2N.CX P w) 1 f fd ["self", a1, a2] (spI C [n1, n2]) := by
  refine fn_sup F G (fun vs H Q E h => ?_) fun cda cc A outer s H vs Q E hr h => ?_
  · obtain ⟨a, ws, rfl, hl, _⟩ := h
    simp [hl]
  · obtain ⟨a, ws, rfl, hl, ea, q⟩ := h
    obtain ⟨v, u, rfl⟩ : ∃ v u, ws = [v, u] := by
      match ws, hl with
      | [v, u], _ => exact ⟨v, u, rfl⟩
    have vs0 : Vis (defScope st) "self" := .inl (G.S.par _ List.mem_cons_self)
    have vs1 : Vis (defScope st) a1 := .inl (G.S.par _ (List.mem_cons_of_mem _ List.mem_cons_self))
    have vs2 : Vis (defScope st) a2 := .inl (G.S.par _ (List.mem_cons_of_mem _ (List.mem_cons_of_mem _ List.mem_cons_self)))
    refine ⟨⟨a, _, rfl, ea⟩, _, pss_cons (ps_ost (pe_var (i := 0) rfl vs0) (pe_var (i := 1) rfl vs1 d1 c1)) (pss_one (ps_ost (pe_var (i := 0) rfl vs0) (pe_var (i := 2) rfl vs2 d2 c2))), ?_⟩
    refine ⟨v, rfl, .ref a, rfl, a, C, rfl, F.T, h1, .inl ⟨ea, fun dx hd hne => ?_⟩⟩
    refine ⟨u, rfl, .ref a, rfl, a, C, rfl, F.T, h2, .inr ⟨dx, [(n1, v)], upd_same, by rw [upd_ne hne, upd_same], by simp, ?_⟩⟩
    have := q dx hd hne
    have e : upd (upd (upd H dx (exd dx [(n1, v)])) a (exo a C (some dx))) dx (exd dx [(n2, u), (n1, v)]) = upd (upd H dx (exd dx ([n1, n2].zip [v, u]).reverse)) a (exo a C (some dx)) := by
      funext b
      by_cases hb : b = dx
      · rw [hb, upd_same, upd_ne hne, upd_same]
        rfl
      · rw [upd_ne hb]
        by_cases hba : b = a
        · rw [hba, upd_same, upd_same]
        · rw [upd_ne hba, upd_ne hba, upd_ne hb, upd_ne hb]
    rw [e]
    exact this
end
end QL
set_option Elab.async false
set_option linter.all false
set_option maxRecDepth 100000
set_option maxHeartbeats 4000000
/-! QX4: try .. except C as n, the caught exception's fields. -/
namespace QL
open PySem L2
section
variable {X : Cx} {W : WX} {x n : Str} {c : Value} {i : Nat} {body suite : List Stmt} {b₀ : Stmt} {np pos pos' : Pos} {wb : WS} {wsu : Addr → Value → Option Addr → WS} {m : Str → Option Bool}
def noXD (_ : Ex) (_ : SS) (_ : LS) : Prop := False
def kDel (i : Nat) (Q : SS → LS → Prop) (σ : SS) (l : LS) : Prop := Q (σ.set i none) l
def dSu (i : Nat) (D : ED) : ED := { nx := kDel i D.nx, rt := D.rt, bk := kDel i D.bk, ct := kDel i D.ct, ex := noXD }
def kCatch (i : Nat) (m : Str → Option Bool) (wsu : Addr → Value → Option Addr → WS) (D : ED) (ex : Ex) (σ : SS) (l : LS) : Prop := match ex with
  | .own x ns xs => (m x = some true ∧ ∀ a cls d, wsu a cls d (dSu i D) (σ.set i (some (.exc a cls d (.own x ns xs)))) l) ∨ (m x = some false ∧ D.ex (.own x ns xs) σ l)
  | .blt _ => False
def wTry (i : Nat) (m : Str → Option Bool) (wb : WS) (wsu : Addr → Value → Option Addr → WS) (D : ED) (σ : SS) (l : LS) : Prop := wb { nx := D.nx, rt := D.rt, bk := D.bk, ct := D.ct, ex := kCatch i m wsu D } σ l
theorem Rel.setNone {K : PySem.W.Frag} {p : Pt} {σ : St} {σd : SS} {l : LS} {i : Nat} (R : Rel K p σ σd l) : Rel K p (σ.set i none) (σd.set i none) l := ⟨R.wf, R.sl.setNone, R.ce⟩
theorem qs_try_as (hs : X.stack = X.env :: X.outer) (hf : X.env.frame = some X.env.locals) (hN : X.N.Nodup) (hi : X.N[i]? = some n) (hln : X.env.kindOf n = some .local) (hc : Names X x c) (tk : L2N.Takes X W)
    (hm : ∀ y b, m y = some b → PySem.W.exmOne X.K (.ref (clsA X.K y)) c = some b)
    (hb : ∀ (W' : WX) (pn : List (Addr × Obj)) (xe : Value → Shared → Prop), L2N.Takes (X.tr pn xe) W' → PassesOwn (model X.prog X.w) X.A X.env xe → QSs (X.tr pn xe) W' body wb)
    (hsu : ∀ (a : Addr) (oe : Obj) (cls : Value) (d : Option Addr) (pn : List (Addr × Obj)), L2N.Zn cls d oe → (∃ vs, oe.data = .fields vs) → QSs (X.suite a ((a, oe) :: pn)) (fun _ _ _ _ => False) (b₀ :: suite) (wsu a cls d)) :
    QS X W (.Try body [.ExceptHandler (some (.Name x np)) (some n) (b₀ :: suite) pos'] [] [] pos) (wTry i m wb wsu) := by
  refine PS.imp (L2N.ps_try_as (tb := fun W' => cS X.K W' wb) (ts := fun a cls d => cS X.K (fun _ _ _ _ => False) (wsu a cls d)) hs hf hN hi hln hc tk hb hsu) fun D σ H ⟨p, σd, l, Dd, hH, R, hw, kk⟩ => ?_
  subst hH
  refine cS_ok R hw ⟨kk.nx, kk.bk, kk.ct, kk.rt, fun p1 σ1 σd1 l1 ex cls dd e1 R1 xr q => ?_⟩
  cases ex with
  | blt _ => exact q.elim
  | own y ns xs =>
    have ec : cls = .ref (clsA X.K y) := xr.1
    subst ec
    rcases q with ⟨h, q⟩ | ⟨h, q⟩
    · refine ⟨true, hm _ _ h, fun _ a na => ?_, fun z => absurd z (by decide)⟩
      have R2 : Rel X.K p1 (σ1.set i (some (.ref a))) (σd1.set i (some (.exc a (.ref (clsA X.K y)) dd (.own y ns xs)))) l1 := R1.set (d := .exc a (.ref (clsA X.K y)) dd (.own y ns xs)) ⟨rfl, xr⟩
      exact cS_ok R2 (q a _ dd) ⟨fun p2 σ2 σd2 l2 e2 r2 q2 => kk.nx p2 _ _ l2 (e1.trans e2) r2.setNone q2, fun p2 σ2 σd2 l2 e2 r2 q2 => kk.bk p2 _ _ l2 (e1.trans e2) r2.setNone q2, fun p2 σ2 σd2 l2 e2 r2 q2 => kk.ct p2 _ _ l2 (e1.trans e2) r2.setNone q2,
        fun p2 d v l2 e2 w2 c2 r2 q2 => kk.rt p2 d v l2 (e1.trans e2) w2 c2 r2 q2, fun _ _ _ _ _ _ _ _ _ _ z => z.elim⟩
    · exact ⟨false, hm _ _ h, fun z => absurd z (by decide), fun _ => kk.ex p1 σ1 σd1 l1 _ _ dd e1 R1 xr q⟩
/-! ### its fields -/
def kXf (a : Addr) (cls : Value) (d : Option Addr) (L : List Str) (f : Str) (Q : P → LS → Prop) (v : P) (l : LS) : Prop := ∃ x ns xs y, v = .exc a cls d (.own x ns xs) ∧ x ∈ L ∧ (ns.zip xs).lookup f = some y ∧ Q (.d y) l
def wXf (a : Addr) (cls : Value) (d : Option Addr) (L : List Str) (f : Str) (we : WE) (σ : SS) (l : LS) (Q : P → LS → Prop) (E : EK) : Prop := we σ l (kXf a cls d L f Q) E
theorem rds_look {K : PySem.W.Frag} {p : Pt} {f : Str} : ∀ {ns : List Str} {xs : List D} {vs : List V} {y : D}, RDs K p xs vs → (ns.zip xs).lookup f = some y → ∃ v, (ns.zip vs).lookup f = some v ∧ RD K p y v
  | [], _, _, _, _, h => by simp at h
  | _ :: _, [], _, _, _, h => by simp at h
  | n :: ns, x :: xs, _, y, .cons r t, h => by
    rw [List.zip_cons_cons, List.lookup_cons] at h ⊢
    by_cases e : f == n
    · rw [e] at h ⊢
      cases h
      exact ⟨_, rfl, r⟩
    · rw [Bool.not_eq_true] at e
      rw [e] at h ⊢
      exact rds_look t h
theorem qe_xf {a : Addr} {oe : Obj} {cls : Value} {d : Option Addr} {pn : List (Addr × Obj)} {e : Expr} {we : WE} {L : List Str} {f : Str} (hL : ∀ y ∈ L, XfC X.K (clsA X.K y) ∧ PySem.W.findIn X.K (.ref (clsA X.K y)) f = some none)
    (hz : Zc cls d oe) (hf : ∃ vs, oe.data = .fields vs) (he : QE (X.suite a ((a, oe) :: pn)) W e we) (hb : attributeBase e f X.env (eval e X.env) = eval e X.env := by rfl) :
    QE (X.suite a ((a, oe) :: pn)) W (.Attribute e f pos) (wXf a cls d L f we) := by
  refine ⟨fun pins s σ H Q I h => ?_⟩
  obtain ⟨p, σd, l, Qd, Ed, hH, R, hw, kk, lk⟩ := h
  subst hH
  refine attr_of hb (thn (he.run pins s σ _ (fun v H1 => ∃ (p1 : Pt) (l1 : LS) (r : P), p1.H = H1 ∧ Ext p p1 ∧ Rel X.K p1 σ σd l1 ∧ RP X.K p1 r v ∧ kXf a cls d L f Qd r l1) I (cE_ok R hw lk fun r l1 v p1 e1 R1 r1 q1 => ⟨p1, l1, r, rfl, e1, R1, r1, q1⟩)) fun u s1 hh => ?_)
  obtain ⟨v, H1, I1, ru, p1, l1, r, rfl, e1, R1, r1, x, ns, xs, y, rfl, hx, hy, q⟩ := hh
  obtain ⟨T, hno⟩ := hL x hx
  obtain ⟨rfl, rfl, dd, vs, rfl, hF, hd, rds⟩ := r1
  obtain rfl : u = Value.ref a := ru
  obtain ⟨ha, _⟩ := I1.pin (a, oe) (List.mem_append_left _ List.mem_cons_self)
  obtain ⟨vs0, hd0⟩ := hf
  have hx : ObjOk X.prog X.w p1.H s1.heap dd (.xd (ns.zip vs)) := I1.hok dd _ hd
  obtain ⟨mA, hns, hr⟩ := hx
  obtain ⟨od, ho, hl⟩ := lookIn_ns hns
  obtain ⟨v, hv, rv⟩ := rds_look rds hy
  obtain ⟨u, hu, ru⟩ := RelO.some_of (v := v) (o := mA f) (by rw [← hv]; exact hr f)
  have J : PySem.W.InstAt s1.heap a oe (clsA X.K x) (some od) := ⟨ha, hz.1, by unfold PySem.W.notCls; rw [hd0] <;> rfl, by rw [hz.2]; exact ho⟩
  exact HandSPX.exc_get I1.kIn J T.ga T.gg T.exC (PySem.W.findObj_own T.hdC hno rfl (by rw [hl, hu])) (handed_of ru) ⟨v, p1.H, I1.tok _, ru, kk (.d y) l1 v p1 e1 R1 rv q⟩
end
end QL
set_option Elab.async false
set_option linter.all false
set_option maxRecDepth 100000
set_option maxHeartbeats 4000000
/-! QX5: isinstance of a caught exception. -/
namespace PySem.W
open PySem PySem.Calls PyProof.Rows
section
variable {prog : Program} {w : World} {A : Around} {E : Value → Shared → Prop} {s : Shared} {K : Frag} {x D : Addr} {ox : Obj} {od : Option Obj}
theorem q_findObj {C : Addr} {name : Str} {a g : Value} (hc : (clsIn K C).isSome = true) (ha : findIn K (.ref C) name = some (some a)) (hg : specialIn K a "__get__" = some (some g)) (ht : takesIn K a = some true) : findObj K C od name = some (.bind g a) := by
  obtain ⟨cd, hc⟩ := Option.isSome_iff_exists.mp hc
  unfold findObj
  rw [hc, Option.bind_some, ha, Option.bind_some]
  simp [hg, ht]
theorem q_class {Q : Option Value → Shared → Prop} (T : L2.ExcC K D)
    (X : K.In s.heap) (I : InstAt s.heap x ox D od) (h : Q (some (.ref D)) { s with toks := s.toks + 1 }) : wpAny (model prog w) A (getAttr? (.ref x) "__class__") Q E s := by
  have hf : findObj K D od "__class__" = some (.bind (.builtin "getset_descriptor.__get__") (.builtin "object.__class__")) := q_findObj (by obtain ⟨cd, hc, _⟩ := any_some T.hd; rw [hc]; rfl) T.ha T.hn T.ht
  obtain ⟨hp, g, d, t, os⟩ := s
  have L0 := I.type (M := model prog w)
  have L1 := looks_findIn (M := model prog w) X T.hg
  have L2 := looks_findIn (M := model prog w) X T.hk
  have L3 := looks_find (M := model prog w) X I hf
  have sub : Looks (model prog w) hp (isInstance (.ref x) (.type "BaseException")) true := L0.andThen (looks_subIn X T.hs)
  have hx0 : (false && onTheHeap (Value.builtin "BaseException.__getattribute__")) = false := rfl
  have hx2 : (Value.builtin "BaseException.__getattribute__" == Value.builtin "object.__getattribute__") = false := by decide +kernel
  have hx1 : (onTheHeap (Value.ref D) && Value.builtin "BaseException.__getattribute__" == Value.builtin "object.__getattribute__") = false := by rw [hx2]; rfl
  unfold getAttr? getAttrBy? getAttrBy
  refine wpAny_bind (wpAny_mkText (wpAny_bind (wpAny_attempt (wpAny_holding (wpAny_bind (L0.at (wpAny_bind (L1.at ?_))))))))
  show wpAny _ _ (if (onTheHeap (Value.ref D) && Value.builtin "BaseException.__getattribute__" == Value.builtin "object.__getattribute__") = true then _ else _) _ _ _
  rw [hx1, if_neg Bool.false_ne_true]
  unfold getAttrByItsOwn hookBefore
  refine wpAny_bind ?_
  rw [if_pos (show onTheHeap (Value.ref D) = true from rfl)]
  refine L2.at ?_
  refine wpAny_bind (wpAny_attempt (wpAny_holding ?_))
  unfold callGetattribute
  rw [hx0, if_neg Bool.false_ne_true]
  unfold boundAndCalled
  rw [PySem.F.excAttr_ValueError.ga.bind (.ref x)]
  refine wpAny_bind (wpAny_pure ?_)
  show wpAny _ _ (call (.builtin "BaseException.__getattribute__") [.ref x, .str "__class__" t]) _ _ _
  refine wpAny_call (codeAny_call_builtin PySem.F.excAttr_ValueError.ga.plain PySem.F.entry_bexc_ga ?_)
  refine @check_slot (model prog w) _ _ ⟨hp, g, d, t + 1, os⟩ "BaseException.__getattribute__" "BaseException" "__getattribute__" (.ref x) [.str "__class__" t] [] _ (by decide +kernel) (by decide +kernel) sub (PySem.F.args_bexc_ga (.ref x) (.str "__class__" t)) ?_
  unfold Builtin.«object.__getattribute__»
  refine wpAny_bind (wpAny_of_eq (a := ((Value.ref x : Value), [Value.str "__class__" t])) (by first | rfl | (simp only [slotArgs]; rfl)) ?_)
  refine wpAny_bind (wpAny_pure (wpAny_bind (L0.at (wpAny_bind (L3.at ?_)))))
  show wpAny _ _ (holding [Value.builtin "object.__class__"] (call (.builtin "getset_descriptor.__get__") [.builtin "object.__class__", .ref x, .ref D]) >>= ret) _ _ _
  refine wpAny_bind (wpAny_holding (wpAny_call (class_get (s := ⟨hp, g, d, t + 1, os⟩) (ox := ox) (od := od) X I T.hm ?_)))
  refine wpAny_pure ?_
  show wpAny _ _ (handedOut (.ref D)) _ _ _
  rw [handedOut_of (v := .ref D) rfl]
  first
    | exact wpAny_pure (wpAny_pure h)
    | exact wpAny_pure h
    | exact wpAny_pure (wpAny_bind (wpAny_pure (wpAny_pure h)))
theorem q_kit (T : L2.ExcC K D) : KitX K (.ref x) (.ref D) (fun h => InstAt h x ox D od) where
  ty := fun _ _ _ I => I.type
  it := fun _ _ X _ => by
    obtain ⟨cdD, hcD, _⟩ := any_some T.hd
    unfold clsIn at hcD
    split at hcD
    · rename_i c' d' cd' sl' ho
      intro A' Q' E' s' k q
      unfold isType loadHead
      exact wpAny_bind (wpAny_loadPart (k _ _ (X _ _ ho)) (wpAny_pure q))
    · cases hcD
  ne := fun h tp dd its n sl X htp => by
    obtain ⟨cdD, hcD, _⟩ := any_some T.hd
    refine Bool.eq_false_iff.mpr fun q => ?_
    have e : D = tp := Value.ref.inj (beq_iff_eq.mp q)
    subst e
    unfold clsIn at hcD
    split at hcD
    · rename_i c' d' cd' sl' ho
      have z := (X _ _ ho).symm.trans htp
      cases z
    · cases hcD
  ca := fun X I k => q_class T X I k
end
end PySem.W
namespace QL
open PySem L2
/-- isinstance(e, c), e the exception that the suite holds; m tells the answers -/
def rIsX (K : PySem.W.Frag) (L : List Str) (m : Str → Bool) (cv : Value) (a : Addr) (cls : Value) (d : Option Addr) : List V → Hp → VK → Prop := fun xs H Q => ∃ (c : V) (y : Str) (dd : Addr) (fs : List (Str × V)), xs = [.ref a, c] ∧ (∀ u, RelV c u → u = cv) ∧
  y ∈ L ∧ cls = .ref (clsA K y) ∧ d = some dd ∧ H dd = some (.xd fs) ∧ Q (.bl (m y)) H
theorem call_isX {X : Cx} {a : Addr} {oe : Obj} {cls cv : Value} {d : Option Addr} {pn : List (Addr × Obj)} {L : List Str} {m : Str → Bool} (hL : ∀ y ∈ L, ExcC X.K (clsA X.K y) ∧ PySem.W.kitOne X.K (.ref (clsA X.K y)) cv = some (m y))
    (hz : Zc cls d oe) (hf : ∃ vs, oe.data = .fields vs) : CallR (X.suite a ((a, oe) :: pn)) (.builtin "isinstance") (rIsX X.K L m cv a cls d) := by
  intro pins s σ H xs us Q I r h
  obtain ⟨c, y, dd, fs, rfl, hcv, hy, rfl, rfl, hd, q⟩ := h
  obtain ⟨C, e⟩ := hL y hy
  cases r with
  | cons rx rr =>
    cases rr with
    | cons rt rr =>
      cases rr
      cases rx
      have ec := hcv _ rt
      subst ec
      obtain ⟨hget, _⟩ := I.pin (a, oe) (List.mem_append.mpr (.inl List.mem_cons_self))
      obtain ⟨vs, hv⟩ := hf
      have hx : ObjOk X.prog X.w H s.heap dd (.xd fs) := I.hok dd _ hd
      obtain ⟨mA, hns, hr⟩ := hx
      obtain ⟨od, ho, hl⟩ := lookIn_ns hns
      have J : PySem.W.InstAt s.heap a oe (clsA X.K y) (some od) := ⟨hget, hz.1, by unfold PySem.W.notCls; rw [hv] <;> rfl, by rw [hz.2]; exact ho⟩
      exact PySem.W.kia_one (PySem.W.q_kit C) I.kIn J e (fun z => nomatch z) fun tk => ⟨.bl (m y), H, I.kept (t' := tk) fun _ _ z => z, rfl, q⟩
section
variable {X : Cx} {W : WX} {pos q : Pos} {e c : Expr} {we : WE}
def kIsX (L : List Str) (m : Str → Bool) (a : Addr) (cls : Value) (d : Option Addr) (Q : P → LS → Prop) (v : P) (l : LS) : Prop := ∃ y ns xs, v = .exc a cls d (.own y ns xs) ∧ y ∈ L ∧ Q (.d (.bl (m y))) l
def wIsX (L : List Str) (m : Str → Bool) (a : Addr) (cls : Value) (d : Option Addr) (we : WE) (σ : SS) (l : LS) (Q : P → LS → Prop) (E : EK) : Prop := we σ l (kIsX L m a cls d Q) E
theorem qe_isX {a : Addr} {oe : Obj} {cls cv : Value} {cV : V} {d : Option Addr} {pn : List (Addr × Obj)} {L : List Str} {m : Str → Bool} (hL : ∀ y ∈ L, ExcC X.K (clsA X.K y) ∧ PySem.W.kitOne X.K (.ref (clsA X.K y)) cv = some (m y))
    (hz : Zc cls d oe) (hf : ∃ vs, oe.data = .fields vs) (he : QE (X.suite a ((a, oe) :: pn)) W e we) (hc : PE (X.suite a ((a, oe) :: pn)) c (tC cV)) (hcv : ∀ u, RelV cV u → u = cv)
    (hg : Gl (X.suite a ((a, oe) :: pn)) "isinstance") (hm : X.mg "isinstance" = none)
    (hst : starEach (e :: [c]) X.env = (false, eval e X.env) :: starEach [c] X.env := by rfl) (hst2 : starEach [c] X.env = [(false, eval c X.env)] := by rfl) (hpl : (backTo pos (starEach [c] X.env)).any (·.1) = false := by rfl) :
    QE (X.suite a ((a, oe) :: pn)) W (.Call (.Name "isinstance" q) [e, c] [] pos) (wIsX L m a cls d we) := by
  refine PE.imp (pe_callB (call_isX hL hz hf) hg hm (by rfl) (pa_cons he (pa_cons hc pa_nil hst2) hst) (by decide) (by decide) hst hpl) fun σ H Q ⟨p, σd, l, Qd, Ed, hH, R, hw, kk, lk⟩ => ?_
  subst hH
  refine cE_ok R hw lk fun r l1 v p1 e1 R1 r1 ⟨y, ns, xs, er, hy, q⟩ => ?_
  subst er
  obtain ⟨rfl, ec, dd, vs, ed, hF, hd, rds⟩ := r1
  exact ⟨cV, y, dd, _, rfl, hcv, hy, ec, ed, hd, kk (.d (.bl (m y))) l1 _ p1 e1 R1 (RD.bl _) q⟩
end
end QL
set_option Elab.async false
set_option linter.all false
set_option maxRecDepth 100000
set_option maxHeartbeats 4000000
/-! QS1: text and tuple times a number, a sign within a text. -/
namespace L2
open PySem PySem.Spec PyProof.Rows
theorem q_tuple_same (l : Addr) (items : Array Value) (n : Nat) (dd : Option Addr) (sl : Array (Option Value)) (x : Int) (u : Tok) (c0 : (decide (x < -(2 ^ 63)) || decide (x ≥ 2 ^ 63)) = false) (c1 : (items.isEmpty || x == 1) = true) :
    Meets (Builtin.«tuple.__mul__» ⟨[.ref l, .int x u], []⟩) (fun _ R s => s.heap.get? l = some { cls := .type "tuple", dict := dd, data := .seq items n, slots := sl } ∧ R (.ok (.ret (Value.ref l))) s) :=
  .of_wp fun prog w A R s h => by
    obtain ⟨hp, g, d, tk, os⟩ := s
    obtain ⟨hl, h⟩ := h
    have f1 := AutoSeq1.idx_int
    wp_walk using wpAny_loadPart' hl
    repeat (first
      | (refine wpAny_ite_false (decide_eq_false (by rw [c0]; exact Bool.false_ne_true)) ?_; wp_walk using wpAny_loadPart' hl)
      | (refine wpAny_ite_true (decide_eq_true c1) ?_; wp_walk using wpAny_loadPart' hl))
    exact ⟨_, rfl, h⟩
theorem q_tuple_nil (l : Addr) (items : Array Value) (n : Nat) (dd : Option Addr) (sl : Array (Option Value)) (x : Int) (u : Tok) (c0 : (decide (x < -(2 ^ 63)) || decide (x ≥ 2 ^ 63)) = false) (c1 : (items.isEmpty || x == 1) = false) (c2 : (decide (x ≤ 0) || items.isEmpty) = true) :
    Meets (Builtin.«tuple.__mul__» ⟨[.ref l, .int x u], []⟩) (fun _ R s => s.heap.get? l = some { cls := .type "tuple", dict := dd, data := .seq items n, slots := sl } ∧
      R (.ok (.ret (Value.ref s.heap.objs.size))) { s with heap := s.heap.push { cls := Value.type "tuple", data := Data.seq #[] }, toks := s.toks }) :=
  .of_wp fun prog w A R s h => by
    obtain ⟨hp, g, d, tk, os⟩ := s
    obtain ⟨hl, h⟩ := h
    have f1 := AutoSeq1.idx_int
    wp_walk using wpAny_loadPart' hl
    repeat (first
      | (refine wpAny_ite_false (decide_eq_false (by rw [c0]; exact Bool.false_ne_true)) ?_; wp_walk using wpAny_loadPart' hl)
      | (refine wpAny_ite_false (decide_eq_false (by rw [c1]; exact Bool.false_ne_true)) ?_; wp_walk using wpAny_loadPart' hl)
      | (refine wpAny_ite_true (decide_eq_true c2) ?_; wp_walk using wpAny_loadPart' hl))
    exact ⟨_, rfl, h⟩
def rRepT2 (K : PySem.W.Frag) : R2 := fun x y H Q => ∃ l k xs, x = .ref l ∧ y = .int k ∧ SqT K H l xs ∧ -(2 ^ 63) ≤ k ∧ k < 2 ^ 63 ∧ xs.length * k.toNat ≤ sizeLine ∧
  (xs = [] ∨ k = 1 → Q (.ref l) H) ∧ (xs ≠ [] → k ≠ 1 → ∀ p, H p = none → Q (.ref p) (upd H p (.tup (List.replicate k.toNat xs).flatten)))
section
variable {X : Cx}
theorem op_repT2 : OpR X (binaryOp .Mult) (rRepT2 X.K) := by
  intro pins s σ H x y v u Q I rx ry h
  obtain ⟨l, k, xs, rfl, rfl, hT, h1, h2, hz, q1, q2⟩ := h
  cases rx
  obtain ⟨t, rfl⟩ := ry
  obtain ⟨its, r, ⟨⟨cls, dd, data, sl⟩, ho, hc, n, hd⟩, hs⟩ := I.tuple hT
  simp only at hc hd
  subst hc hd
  have hle : its.length = xs.length := r.length.symm
  have c0 : (decide (k < -(2 ^ 63)) || decide (k ≥ 2 ^ 63)) = false := by
    rw [decide_eq_false (by omega), decide_eq_false (by omega)] <;> rfl
  have hi : its.toArray.isEmpty = decide (xs = []) := by
    cases its with
    | nil =>
      have : xs = [] := List.eq_nil_of_length_eq_zero (by rw [← hle]; rfl)
      rw [decide_eq_true this]
      rfl
    | cons a b =>
      have : xs ≠ [] := fun e => by rw [e] at hle; simp at hle
      rw [decide_eq_false this]
      rfl
  by_cases hc1 : xs = [] ∨ k = 1
  · have c1 : (its.toArray.isEmpty || k == 1) = true := by
      rw [hi]
      rcases hc1 with z | z
      · rw [decide_eq_true z]; rfl
      · rw [z]; simp
    refine wpAny_binaryOp_repeat_ref (T := "tuple") (U := "int") (by decide) ⟨_, ho, rfl⟩ (fun s' => typeIs_int s' k t) noFill_tuple_mul F.fills_int_mul F.slot_int_rmul repeat_tuple F.slot_int_index.lookup
      (call_meets F.slot_int_rmul (typeIs_int s k t) F.entry_int_rmul (F.args_int_rmul_2 _ _) (int_rmul_tuple k t l its.toArray n dd sl)
        ⟨ho, rfl, ⟨_, ho, rfl⟩, call_meets F.slot_tuple_mul ⟨_, ho, rfl⟩ F.entry_tuple_mul (F.args_tuple_mul_2 _ _) (q_tuple_same l its.toArray n dd sl k t c0 c1) ⟨ho, ?_⟩⟩)
    exact ⟨.ref l, H, I, rfl, q1 hc1⟩
  · have hne : xs ≠ [] := fun e => hc1 (.inl e)
    have hk1 : k ≠ 1 := fun e => hc1 (.inr e)
    have c1 : (its.toArray.isEmpty || k == 1) = false := by
      rw [hi, decide_eq_false hne, Bool.false_or]
      exact beq_eq_false_iff_ne.mpr hk1
    by_cases hk : k ≤ 0
    · have c2 : (decide (k ≤ 0) || its.toArray.isEmpty) = true := by rw [decide_eq_true hk]; rfl
      refine wpAny_binaryOp_repeat_ref (T := "tuple") (U := "int") (by decide) ⟨_, ho, rfl⟩ (fun s' => typeIs_int s' k t) noFill_tuple_mul F.fills_int_mul F.slot_int_rmul repeat_tuple F.slot_int_index.lookup
        (call_meets F.slot_int_rmul (typeIs_int s k t) F.entry_int_rmul (F.args_int_rmul_2 _ _) (int_rmul_tuple k t l its.toArray n dd sl)
          ⟨ho, rfl, ⟨_, ho, rfl⟩, call_meets F.slot_tuple_mul ⟨_, ho, rfl⟩ F.entry_tuple_mul (F.args_tuple_mul_2 _ _) (q_tuple_nil l its.toArray n dd sl k t c0 c1 c2) ⟨ho, ?_⟩⟩)
      have e0 : k.toNat = 0 := by omega
      have q := q2 hne hk1
      rw [e0] at q
      refine ⟨.ref s.heap.objs.size, _, I.laid (t' := s.toks) (o := .tup []) (fun b ob q => Heap.get?_push_of_some _ q) (Nat.le_refl _) ?_, rfl, q _ (I.hok.fresh (Nat.le_refl _))⟩
      exact ⟨by rw [List.length_nil]; exact Nat.zero_le _, [], .nil, IsTup.new _ _⟩
    · have c2 : (decide (k ≤ 0) || its.toArray.isEmpty) = false := by
        rw [hi, decide_eq_false hne, decide_eq_false hk]
        rfl
      have hm : ((its.toArray.size : Nat) : Int) * k ≤ 16777216 := by
        rw [List.size_toArray, hle, show k = ((k.toNat : Nat) : Int) by omega]
        rw [sizeLine_eq] at hz
        have h3 : ((xs.length * k.toNat : Nat) : Int) ≤ ((16777216 : Nat) : Int) := Int.ofNat_le.mpr hz
        rw [Int.natCast_mul] at h3
        exact h3
      have flen : (List.replicate k.toNat its).flatten.length ≤ sizeLine := by
        rw [PyProof.Rows.lm_len_rep_flat, hle, Nat.mul_comm]
        exact hz
      have c4 : Builtin.Tuple.tupleTooMany (((its.toArray.size : Nat) : Int) * k) = false := by
        unfold Builtin.Tuple.tupleTooMany
        rw [sizeLine_eq]
        exact decide_eq_false (by omega)
      refine wpAny_binaryOp_repeat_ref (T := "tuple") (U := "int") (by decide) ⟨_, ho, rfl⟩ (fun s' => typeIs_int s' k t) noFill_tuple_mul F.fills_int_mul F.slot_int_rmul repeat_tuple F.slot_int_index.lookup
        (call_meets F.slot_int_rmul (typeIs_int s k t) F.entry_int_rmul (F.args_int_rmul_2 _ _) (int_rmul_tuple k t l its.toArray n dd sl)
          ⟨ho, rfl, ⟨_, ho, rfl⟩, call_meets F.slot_tuple_mul ⟨_, ho, rfl⟩ F.entry_tuple_mul (F.args_tuple_mul_2 _ _) (tuple_mulW l its.toArray n dd sl k t c0 c1 c2 (by omega) c4 (by rw [size_rep, List.size_toArray]; exact flen)) ⟨ho, ?_⟩⟩)
      rw [size_rep]
      refine ⟨.ref s.heap.objs.size, _, I.laid (t' := s.toks) (o := .tup (List.replicate k.toNat xs).flatten) (fun b ob q => Heap.get?_push_of_some _ q) (Nat.le_refl _) ?_, rfl, q2 hne hk1 _ (I.hok.fresh (Nat.le_refl _))⟩
      exact ⟨by rw [PyProof.Rows.lm_len_rep_flat, Nat.mul_comm]; exact hz, _, r.rep k.toNat, IsTup.new _ _⟩
/-- a text many times over -/
def repS (x : Str) (k : Int) : Str := ⟨(List.replicate k.toNat x.cps.toList).flatten.toArray⟩
theorem q_fold (x : Array Nat) : ∀ m : Nat, (List.replicate m x).foldl (· ++ ·) #[] = (List.replicate m x.toList).flatten.toArray := by
  have h : ∀ (m : Nat) (a : Array Nat), (List.replicate m x).foldl (· ++ ·) a = a ++ (List.replicate m x.toList).flatten.toArray := by
    intro m
    induction m with
    | zero => intro a; simp
    | succ m ih =>
      intro a
      rw [List.replicate_succ, List.foldl_cons, ih, List.replicate_succ, List.flatten_cons]
      apply Array.toList_inj.mp
      simp
  intro m
  rw [h]
  simp
def rRepS : R2 := fun x y H Q => ∃ z k, x = .str z ∧ y = .int k ∧ -(2 ^ 63) ≤ k ∧ k < 2 ^ 63 ∧ z.length * k.toNat ≤ sizeLine ∧ Q (.str (repS z k)) H
theorem op_repS : OpR X (binaryOp .Mult) rRepS := by
  intro pins s σ H x y v u Q I rx ry h
  obtain ⟨z, k, rfl, rfl, h1, h2, hz, q⟩ := h
  obtain ⟨t, rfl⟩ := rx
  obtain ⟨t', rfl⟩ := ry
  have hm : ((z.length : Nat) : Int) * ((k.toNat : Nat) : Int) ≤ 16777216 := by
    rw [sizeLine_eq] at hz
    have h3 : ((z.length * k.toNat : Nat) : Int) ≤ ((16777216 : Nat) : Int) := Int.ofNat_le.mpr hz
    rw [Int.natCast_mul] at h3
    exact h3
  refine PySem.P.mul_str (by rw [decide_eq_false (by omega), decide_eq_false (by omega)]; rfl) (fun a b => ?_) (fun a b => ?_) ?_
  · have e : (k.toNat : Int) = k := by omega
    rw [e] at hm
    have hk : 1 ≤ k := by omega
    refine Int.not_lt.mpr ((Int.le_ediv_iff_mul_le (by omega)).mpr ?_)
    omega
  · show decide (z.length * k.toNat > sizeLine) = false
    exact decide_eq_false (by omega)
  · have hT : ∀ (y : Str), y = repS z k → Q (.str y) H := fun y e => by rw [e]; exact q
    by_cases hk : k < 1
    · rw [if_pos hk]
      refine ⟨by decide, .str Str.empty, H, I.tok _, ⟨_, rfl⟩, hT _ ?_⟩
      unfold repS
      rw [show k.toNat = 0 by omega]
      rfl
    · rw [if_neg hk]
      by_cases hb : (k == 1 || z.length == 0) = true
      · rw [if_pos hb]
        refine ⟨.str z, H, I, ⟨_, rfl⟩, hT _ ?_⟩
        unfold repS
        rcases Bool.or_eq_true_iff.mp hb with e | e
        · have e : k = 1 := by simpa using e
          subst e
          show z = ⟨([z.cps.toList].flatten).toArray⟩
          simp
        · have e : z.cps.size = 0 := by simpa [Str.length] using e
          have e2 : z.cps = #[] := Array.eq_empty_of_size_eq_zero e
          have e3 : z = ⟨#[]⟩ := by cases z; simp at e2; rw [e2]
          rw [e3]
          congr 1
          apply Array.toList_inj.mp
          simp
      · rw [if_neg hb]
        refine ⟨?_, .str _, H, I.tok _, ⟨_, rfl⟩, hT _ ?_⟩
        · rw [q_fold]
          show (List.replicate k.toNat z.cps.toList).flatten.toArray.size ≤ sizeLine
          rw [List.size_toArray, PyProof.Rows.lm_len_rep_flat, Nat.mul_comm]
          simpa [Str.length] using hz
        · unfold repS
          rw [q_fold]
end
end L2

namespace QL
open PySem L2
/-! ### over plain data -/
def oMulT (x y : P) (l : LS) (Q : P → LS → Prop) : Prop := match x, y with
  | .d (.tup a), .d (.int k) => -(2 ^ 63) ≤ k ∧ k < 2 ^ 63 ∧ a.length * k.toNat ≤ sizeLine ∧ Q (.d (.tup (List.replicate k.toNat a).flatten)) l
  | _, _ => False
theorem RDs.rep {K : PySem.W.Frag} {p : Pt} {xs : List D} {vs : List V} (h : RDs K p xs vs) : ∀ k : Nat, RDs K p (List.replicate k xs).flatten (List.replicate k vs).flatten
  | 0 => .nil
  | k + 1 => by
    rw [List.replicate_succ, List.replicate_succ, List.flatten_cons, List.flatten_cons]
    exact h.append (RDs.rep h k)
theorem ref_mulT {K : PySem.W.Frag} : RefOp K (rRepT2 K) oMulT := fun p l x y vx vy Qd Q w ce rx ry h k => by
  unfold oMulT at h
  split at h
  · rename_i a n
    cases ry
    cases rx with
    | tup h1 r1 =>
      obtain ⟨b1, b2, b3, q⟩ := h
      refine ⟨_, _, _, rfl, rfl, h1.sq, b1, b2, by rw [← r1.len]; exact b3, fun e => ?_, fun _ _ => k.newT w ce (r1.rep _) q⟩
      have e2 : (List.replicate n.toNat a).flatten = a := by
        rcases e with e | e
        · have : a = [] := List.eq_nil_of_length_eq_zero (by rw [r1.len, e]; rfl)
          rw [this]
          simp
        · rw [e]
          show [a].flatten = a
          simp
      rw [e2] at q
      exact k.same w ce (d := .d _) (RD.tup h1 r1) q
  · exact h.elim
def oMulS (x y : P) (l : LS) (Q : P → LS → Prop) : Prop := match x, y with
  | .d (.str a), .d (.int k) => -(2 ^ 63) ≤ k ∧ k < 2 ^ 63 ∧ a.length * k.toNat ≤ sizeLine ∧ Q (.d (.str (repS a k))) l
  | _, _ => False
theorem ref_mulS {K : PySem.W.Frag} : RefOp K rRepS oMulS := fun p l x y vx vy Qd Q w ce rx ry h k => by
  unfold oMulS at h
  split at h
  · cases rx; cases ry
    exact ⟨_, _, rfl, rfl, h.1, h.2.1, h.2.2.1, k.same w ce (d := .d _) (RD.str _) h.2.2.2⟩
  · exact h.elim
/-- one sign within a text -/
def oInC (neg : Bool) (x y : P) (l : LS) (Q : P → LS → Prop) : Prop := match x, y with
  | .d (.str a), .d (.str z) => ∃ c, a = ⟨#[c]⟩ ∧ Q (.d (.bl (decide (c ∈ z.cps.toList) ^^ neg))) l
  | _, _ => False
theorem ref_inC {K : PySem.W.Frag} : RefOp K (fun x y H Q => ∃ i j, x = .str i ∧ y = .str j ∧ Q (.bl (!(Builtin.Str.occurrences j i 0 j.length 1).isEmpty)) H) (oInC false) := fun p l x y vx vy Qd Q w ce rx ry h k => by
  unfold oInC at h
  split at h
  · cases rx; cases ry
    obtain ⟨c, rfl, h⟩ := h
    rw [Bool.xor_false] at h
    refine ⟨_, _, rfl, rfl, ?_⟩
    rw [PySem.StrLaws.found_one]
    exact k.same w ce (d := .d _) (RD.bl _) h
  · exact h.elim
end QL
set_option Elab.async false
set_option linter.all false
set_option maxRecDepth 100000
set_option maxHeartbeats 4000000
/-! QS2: s += t, calls without arguments. -/
namespace L2
open PySem PySem.Spec PyProof.Rows
theorem ip_addS {X : Cx} : PIp X .Add (fun x y H Q => ∃ i j, x = .str i ∧ y = .str j ∧ i.length + j.length ≤ sizeLine ∧ Q (.str (i ++ j)) H) := by
  exact iop_add_str
end L2
namespace QL
open PySem L2
section
variable {X : Cx} {W : WX} {pos q : Pos} {x : Str} {fs : FS} {k j n : Nat}
def kCall0 (fs : FS) (l : LS) (Q : P → LS → Prop) (E : EK) : Prop := callP fs [] l Q E
def wCall0 (fs : FS) (σ : SS) (l : LS) (Q : P → LS → Prop) (E : EK) : Prop := kCall0 fs l Q E
theorem qe_call0 (c : CalQ X.prog X.w X.K X.mg X.base k x 0 fs) (hr : Room j X.A) (hk : k ≤ j) (tk : L2N.Takes X W) (hg : Gl X x) (hdb : (x == ("__debug__" : Str)) = false := by decide) :
    QE X W (.Call (.Name x q) [] [] pos) (wCall0 fs) := by
  obtain ⟨f, fd, ps, F, hm, hkp, hb⟩ := c
  refine ⟨fun pins s σ H Q I h => ?_⟩
  refine wpAny_Call_Name_kw (ld_glob I hg hm ?_ hdb)
  refine PySem.W.callWith_K0 I.kIn hkp (run_fnS (E := fun σ => L2.WE W σ) (us := []) (vs := []) F (hr.mono hk) hb (L2N.passAt tk σ) I .nil ?_)
  obtain ⟨p, σd, l, Qd, Ed, hH, R, hw, kk, lk⟩ := h
  subst hH
  exact call_ok R.wf R.ce .nil rfl hw (fun d l' v p' e' w' c' r' q' => kk d l' v p' e' (R.ext e' w' c') r' q') fun ex l' cls dd p' e' w' c' x q => lk ex l' cls dd p' e' (R.ext e' w' c') x q
end
end QL
set_option Elab.async false
set_option linter.all false
set_option maxRecDepth 100000
set_option maxHeartbeats 4000000
/-! QX6: the facts of an own exception class, by a look at the written part. -/
namespace QL
open PySem L2
theorem clsA_of {K : PySem.W.Frag} {x : Str} {C : Addr} (h : PySem.W.nsIn K mainGlobals x = some (some (.ref C))) : clsA K x = C := by
  unfold clsA
  rw [h]
def excOkB (K : PySem.W.Frag) (C : Addr) : Bool := match K.lookup C with
  | some ⟨.type "type", _, .cls cd, sl⟩ => (match cd.mro, sl.toList with
    | .ref C' :: bm, [_, _, _, _, some (.builtin n), _] => decide (C' = C) && (decide (n = "ValueError.__new__") && (!cd.hasDel && (cd.hasDict && PySem.HandSPX.refsVE bm)))
    | _, _ => false)
  | _ => false
theorem excOkB_ok {K : PySem.W.Frag} {C : Addr} (h : excOkB K C = true) : ∃ nm q N bs bm sn sub ab col dd k0 k1 k2 k3 k5, K.lookup C = some (excClassObj nm q C N bs bm true sn sub ab col dd k0 k1 k2 k3 k5 "ValueError.__new__") ∧ PySem.HandSPX.refsVE bm = true := by
  unfold excOkB at h
  split at h
  · rename_i dd cd sl ho
    split at h
    · rename_i C' bm k0 k1 k2 k3 n k5 hm hs
      simp only [Bool.and_eq_true, decide_eq_true_eq, Bool.not_eq_true'] at h
      obtain ⟨rfl, rfl, h3, h4, h5⟩ := h
      obtain ⟨nm, bs, mro, ns, qn, hd, sn, sb, ab, col, del⟩ := cd
      dsimp only at hm h3 h4
      subst hm h3 h4
      have es : sl = #[k0, k1, k2, k3, some (.builtin "ValueError.__new__"), k5] := Array.toList_inj.mp hs
      subst es
      exact ⟨_, _, _, _, bm, _, _, _, _, _, _, _, _, _, _, ho, h5⟩
    · cases h
  · cases h
def clsB (K : PySem.W.Frag) (C : Addr) : Bool := excOkB K C && (decide (PySem.W.findIn K (.ref C) "__setattr__" = some (some (.builtin "object.__setattr__"))) && (decide (PySem.W.subIn K (.ref C) (.type "BaseException") = some true) && (decide (PySem.W.typeIn K (.ref C) = some (.type "type")) &&
  (PySem.W.keepIn K (.ref C) && (decide (PySem.W.findIn K (.ref C) "__getattribute__" = some (some (.builtin "BaseException.__getattribute__"))) && (decide (PySem.W.findIn K (.ref C) "__getattr__" = some none) && (PySem.W.hasDictIn K C &&
  (decide (PySem.W.findIn K (.ref C) "__class__" = some (some (.builtin "object.__class__"))) && (decide (PySem.W.specialIn K (.builtin "object.__class__") "__get__" = some (some (.builtin "getset_descriptor.__get__"))) && (decide (PySem.W.takesIn K (.builtin "object.__class__") = some true) &&
  decide (PySem.W.mroIn K C (.type "object") = some true)))))))))))
structure ClsF (K : PySem.W.Frag) (C : Addr) : Prop where
  oex : OexC K C
  xf : XfC K C
  exc : ExcC K C
theorem clsB_ok {K : PySem.W.Frag} {C : Addr} (h : clsB K C = true) : ClsF K C := by
  unfold clsB at h
  simp only [Bool.and_eq_true, decide_eq_true_eq] at h
  obtain ⟨h1, h2, h3, h4, h5, h6, h7, h8, h9, h10, h11, h12⟩ := h
  exact ⟨⟨excOkB_ok h1, h2, h3, h4, h5⟩, ⟨h6, h7, h3, h8⟩, ⟨h6, h7, h3, h8, h9, h10, h11, h12⟩⟩
theorem tabAll {K : PySem.W.Frag} {c : Value} {t : List (Str × Bool)} (h : ∀ p ∈ t, PySem.W.exmOne K (.ref (clsA K p.1)) c = some p.2) (y : Str) (b : Bool) (e : t.lookup y = some b) : PySem.W.exmOne K (.ref (clsA K y)) c = some b := h (y, b) (PySem.mem_of_lookup e)
/-- a class and the statement of its __init__ -/
def methS (st : Stmt) (i : Nat) : Stmt := match st with
  | .ClassDef _ _ _ body _ _ _ _ _ _ _ => body.getD i (.Pass ⟨0, 0, 0, 0⟩)
  | _ => .Pass ⟨0, 0, 0, 0⟩
end QL
set_option Elab.async false
set_option linter.all false
set_option maxRecDepth 100000
set_option maxHeartbeats 4000000
/-! QS3: x in a list of data of any depth, l.index(x), comprehensions with a test. -/
namespace QL
open PySem L2
theorem any_py {a : D} : ∀ ys : List D, ((D.pys ys).any fun z => PyData.eqv z a.py) = ys.any fun z => D.eqv z a
  | [] => rfl
  | y :: ys => by
    rw [show D.pys (y :: ys) = y.py :: D.pys ys from by simp [D.pys], List.any_cons, List.any_cons, any_py ys]
    rfl
def oInD (neg : Bool) (x y : P) (l : LS) (Q : P → LS → Prop) : Prop := match snap l x, snap l y with
  | some a, some (.lst ys) => dOk 60 a ∧ dOk 60 (.lst ys) ∧ Q (.d (.bl (if neg then !(ys.any fun z => D.eqv z a) else ys.any fun z => D.eqv z a))) l
  | _, _ => False
theorem ref_inD {K : PySem.W.Frag} : RefOp K (rInD K) (oInD false) := fun p l x y vx vy Qd Q w ce rx ry h k => by
  unfold oInD at h
  split at h
  · rename_i a ys ha hb
    have q := k.same w ce (d := .d _) (RD.bl _) h.2.2
    rw [if_neg (by decide), ← any_py] at q
    have e : (D.lst ys).py = .list (D.pys ys) := by simp [D.py]
    have h1 := snap_ok ce ry hb h.2.1
    have h2 := dOk_shaped h.2.1
    rw [e] at h1 h2
    exact ⟨_, _, snap_ok ce rx ha h.1, h1, dOk_shaped h.1, h2, q⟩
  · exact h.elim
theorem ref_notInD {K : PySem.W.Frag} : RefOp K (rNotInD K) (oInD true) := fun p l x y vx vy Qd Q w ce rx ry h k => by
  unfold oInD at h
  split at h
  · rename_i a ys ha hb
    have q := k.same w ce (d := .d _) (RD.bl _) h.2.2
    rw [if_pos rfl, ← any_py] at q
    have e : (D.lst ys).py = .list (D.pys ys) := by simp [D.py]
    have h1 := snap_ok ce ry hb h.2.1
    have h2 := dOk_shaped h.2.1
    rw [e] at h1 h2
    exact ⟨_, _, snap_ok ce rx ha h.1, h1, dOk_shaped h.1, h2, q⟩
  · exact h.elim
def mIndex (x : P) (xs : List P) (l : LS) (Q : P → LS → Prop) : Prop := match snap l x, xs with
  | some (.lst ys), [.d a] => dOk 60 a ∧ dOk 60 (.lst ys) ∧ ∃ (j : Nat) (z : D), ys[j]? = some z ∧ D.eqv z a = true ∧ (∀ (m : Nat) (z' : D), m < j → ys[m]? = some z' → D.eqv z' a = false) ∧ Q (.d (.int (j : Int))) l
  | _, _ => False
theorem pys_get : ∀ (ys : List D) (j : Nat), (D.pys ys)[j]? = (ys[j]?).map D.py
  | [], j => by simp [D.pys]
  | y :: ys, 0 => by simp [D.pys]
  | y :: ys, j + 1 => by
    rw [show D.pys (y :: ys) = y.py :: D.pys ys from by simp [D.pys], List.getElem?_cons_succ, List.getElem?_cons_succ, pys_get ys j]
theorem ref_index {K : PySem.W.Frag} : RefMt K (rIndexD K) mIndex := fun p l x vx xs vs Qd Q w ce rx rxs h k => by
  unfold mIndex at h
  split at h
  · rename_i ys a hx
    obtain ⟨v, rfl, r⟩ := rxs.one
    obtain ⟨h1, h2, j, z, hz, hzz, hno, q⟩ := h
    have d1 := snap_ok ce rx hx h2
    have s2 := dOk_shaped h2
    have e : (D.lst ys).py = .list (D.pys ys) := by simp [D.py]
    rw [e] at d1 s2
    have hv : ∃ b, vx = .ref b := by cases d1 with | lst _ _ => exact ⟨_, rfl⟩
    obtain ⟨b, rfl⟩ := hv
    refine ⟨b, v, a.py, D.pys ys, j, z.py, rfl, rfl, d1, snap_ok ce (x := .d a) r rfl h1, s2, dOk_shaped h1, by rw [pys_get, hz]; rfl, hzz, fun m z' hm hz' => ?_, k.same w ce (d := .d _) (RD.int _) q⟩
    rw [pys_get] at hz'
    obtain ⟨y', hy', rfl⟩ := Option.map_eq_some_iff.mp hz'
    exact hno m y' hm hy'
  · exact h.elim
/-- [elt for x in xs if test] -/
theorem lcF {xs : List D} {g : WG} {σ : SS} {l : LS} {tt : WT} {te : WE} {vs : List Nat} {f : Fresh} {Q : P → LS → Prop} (Iv : Nat → List D → LS → Prop) (hz : xs.length < sizeLine) (h0 : Iv 0 [] l) (hl : ∀ i acc l, Iv i acc l → acc.length ≤ i ∧ i ≤ xs.length)
    (ht : ∀ i x acc l, xs[i]? = some x → Iv i acc l → g (.d x) (wipeD σ vs) l (kLcT tt te vs σ (Iv (i + 1)) acc)) (hd : ∀ acc l, Iv xs.length acc l → freshL f acc l Q) : lcP ⟨xs, okAll⟩ g tt te vs f σ l Q :=
  ⟨Iv, h0, fun i acc l h => ⟨True.intro, by have := hl _ _ _ h; show acc.length < sizeLine; omega⟩, fun i x acc l e h => ht i x acc l e h, fun acc l h => hd acc l h⟩
end QL
open PySem L2 in
theorem L2.Room.u65 {k : Nat} {A : Around} (r : Room k A) : A.units + 65 < cLine := by have := r.un; omega
set_option Elab.async false
set_option linter.all false
set_option maxRecDepth 100000
set_option maxHeartbeats 4000000
/-! QD1: dicts over plain data. -/
namespace QL
open PySem L2
section
variable {κ : Type} [DecidableEq κ]
def valD (kvs : List (κ × D)) (k : κ) : Option D := (kvs.find? fun kv => decide (kv.1 = k)).map (·.2)
def putD (kvs : List (κ × D)) (k : κ) (v : D) : List (κ × D) :=
  if (kvs.any fun kv => decide (kv.1 = k)) = true then kvs.map (fun kv => if kv.1 = k then (kv.1, v) else kv) else kvs ++ [(k, v)]
theorem valD_nil {k : κ} : valD ([] : List (κ × D)) k = none := rfl
theorem valD_pos {q : κ × D} {r : List (κ × D)} {k : κ} (e : q.1 = k) : valD (q :: r) k = some q.2 := by simp [valD, List.find?_cons, e]
theorem valD_neg {q : κ × D} {r : List (κ × D)} {k : κ} (e : ¬ q.1 = k) : valD (q :: r) k = valD r k := by simp [valD, List.find?_cons, e]
/-- the same pairs, by values -/
def zipV (kvs : List (κ × D)) (vs : List V) : List (κ × V) := (kvs.map (·.1)).zip vs
variable {K : PySem.W.Frag} {p : Pt}
theorem valD_ok (k : κ) : ∀ {kvs : List (κ × D)} {vs : List V}, RDs K p (kvs.map (·.2)) vs → (∃ d v, valD kvs k = some d ∧ valV (zipV kvs vs) k = some v ∧ RD K p d v) ∨ (valD kvs k = none ∧ valV (zipV kvs vs) k = none)
  | [], _, _ => .inr ⟨rfl, rfl⟩
  | q :: kvs, _, .cons (v := v) (vs := vs) h t => by
    show (∃ d w, _ ∧ valV ((q.1, v) :: zipV kvs vs) k = some w ∧ _) ∨ (_ ∧ valV ((q.1, v) :: zipV kvs vs) k = none)
    by_cases e : q.1 = k
    · exact .inl ⟨q.2, v, valD_pos e, valV_pos e, h⟩
    · rw [valD_neg e, valV_neg e]
      exact valD_ok k t
theorem any_zip (k : κ) : ∀ {kvs : List (κ × D)} {vs : List V}, kvs.length = vs.length → ((zipV kvs vs).any fun kv => decide (kv.1 = k)) = kvs.any fun kv => decide (kv.1 = k)
  | [], _, _ => rfl
  | q :: kvs, [], h => by simp at h
  | q :: kvs, v :: vs, h => by
    show (decide (q.1 = k) || (zipV kvs vs).any _) = (decide (q.1 = k) || kvs.any _)
    rw [any_zip k (by simpa using h)]
theorem mapD_ok {d : D} {v : V} (k : κ) (r : RD K p d v) : ∀ {kvs : List (κ × D)} {vs : List V}, RDs K p (kvs.map (·.2)) vs →
    ∃ us, (zipV kvs vs).map (fun kv => if kv.1 = k then (kv.1, v) else kv) = zipV (kvs.map fun kv => if kv.1 = k then (kv.1, d) else kv) us ∧ RDs K p ((kvs.map fun kv => if kv.1 = k then (kv.1, d) else kv).map (·.2)) us
  | [], _, .nil => ⟨[], rfl, .nil⟩
  | q :: kvs, _, .cons (v := w) (vs := ws) h t => by
    obtain ⟨us, h1, h2⟩ := mapD_ok k r t
    by_cases e : q.1 = k
    · refine ⟨v :: us, ?_, ?_⟩
      · show (if q.1 = k then (q.1, v) else (q.1, w)) :: (zipV kvs ws).map _ = _
        rw [h1, if_pos e, List.map_cons, if_pos e]
        rfl
      · rw [List.map_cons, if_pos e]
        exact .cons r h2
    · refine ⟨w :: us, ?_, ?_⟩
      · show (if q.1 = k then (q.1, v) else (q.1, w)) :: (zipV kvs ws).map _ = _
        rw [h1, if_neg e, List.map_cons, if_neg e]
        rfl
      · rw [List.map_cons, if_neg e]
        exact .cons h h2
theorem putD_ok {d : D} {v : V} (k : κ) (r : RD K p d v) {kvs : List (κ × D)} {vs : List V} (h : RDs K p (kvs.map (·.2)) vs) : ∃ us, putK (zipV kvs vs) k v = zipV (putD kvs k d) us ∧ RDs K p ((putD kvs k d).map (·.2)) us := by
  have hl : kvs.length = vs.length := by rw [← h.len]; simp
  unfold putK putD
  rw [any_zip k hl]
  split
  · exact mapD_ok k r h
  · refine ⟨vs ++ [v], ?_, ?_⟩
    · unfold zipV
      rw [List.map_append, List.zip_append (by simpa using hl)]
      rfl
    · rw [List.map_append]
      exact h.append (.cons r .nil)
end
/-! ### keys -/
def keyD : D → Option Key
  | .int i => some (.inl i)
  | .str x => some (.inr x)
  | _ => none
def keyL : List D → Option (List Key)
  | [] => some []
  | x :: xs => match keyD x, keyL xs with
    | some k, some ks => some (k :: ks)
    | _, _ => none
def keyT : D → Option (List Key)
  | .tup xs => keyL xs
  | _ => none
section
variable {K : PySem.W.Frag} {p : Pt} {l : LS}
theorem keyD_ok {x : D} {v : V} {k : Key} (r : RD K p x v) (h : keyD x = some k) : v = kV k := by
  cases r <;> cases h <;> rfl
theorem keyL_ok : ∀ {xs : List D} {vs : List V} {ks : List Key}, RDs K p xs vs → keyL xs = some ks → vs = ks.map kV
  | [], _, _, .nil, h => by cases h; rfl
  | x :: xs, _, ks, .cons r t, h => by
    unfold keyL at h
    split at h
    · rename_i k1 ks1 h1 h2
      cases h
      rw [keyD_ok r h1, keyL_ok t h2]
      rfl
    · cases h
theorem keyT_ok {x : D} {v : V} {k : List Key} (r : RD K p x v) (h : keyT x = some k) : ∃ b, v = .ref b ∧ p.H b = some (.tup (k.map kV)) := by
  cases r with
  | tup h1 h2 =>
    have e := keyL_ok h2 h
    subst e
    exact ⟨_, rfl, h1⟩
  | _ => cases h
/-! ### what a dict holds -/
def dkOf (l : LS) : P → Option (List (Key × D))
  | .d (.dk ks vs) => some (ks.zip vs)
  | .loc n => match l[n]? with
    | some (.dk kvs) => some kvs
    | some (.fz (.dk ks vs)) => some (ks.zip vs)
    | _ => none
  | _ => none
def dtOf (l : LS) : P → Option (List (List Key × D))
  | .d (.dt ks vs) => some (ks.zip vs)
  | .loc n => match l[n]? with
    | some (.dt kvs) => some kvs
    | some (.fz (.dt ks vs)) => some (ks.zip vs)
    | _ => none
  | _ => none
theorem zip_fst {κ : Type} {ks : List κ} {xs : List D} (h : ks.length = xs.length) : (ks.zip xs).map (·.1) = ks := List.map_fst_zip (by omega)
theorem zip_snd {κ : Type} {ks : List κ} {xs : List D} (h : ks.length = xs.length) : (ks.zip xs).map (·.2) = xs := List.map_snd_zip (by omega)
theorem dk_rdD {ks : List Key} {xs : List D} {v : V} (r : RD K p (.dk ks xs) v) : ∃ a vs, v = .ref a ∧ Rd p.H a (.dK (zipV (ks.zip xs) vs)) ∧ RDs K p ((ks.zip xs).map (·.2)) vs := by
  cases r with
  | dk f h hl h2 => exact ⟨_, _, rfl, by unfold zipV; rw [zip_fst hl]; exact .inr ⟨_, h⟩, by rw [zip_snd hl]; exact h2⟩
theorem dt_rdD {ks : List (List Key)} {xs : List D} {v : V} (r : RD K p (.dt ks xs) v) : ∃ a vs, v = .ref a ∧ Rd p.H a (.dT (zipV (ks.zip xs) vs)) ∧ RDs K p ((ks.zip xs).map (·.2)) vs := by
  cases r with
  | dt f h hl h2 => exact ⟨_, _, rfl, by unfold zipV; rw [zip_fst hl]; exact .inr ⟨_, h⟩, by rw [zip_snd hl]; exact h2⟩
theorem dkOf_ok {x : P} {v : V} {kvs : List (Key × D)} (ce : Cells K p l) (r : RP K p x v) (h : dkOf l x = some kvs) : ∃ a vs, v = .ref a ∧ Rd p.H a (.dK (zipV kvs vs)) ∧ RDs K p (kvs.map (·.2)) vs := by
  unfold dkOf at h
  split at h
  · cases h
    exact dk_rdD r
  · obtain ⟨a, h1, rfl⟩ := r
    split at h
    · rename_i q
      cases h
      obtain ⟨b, h2, nf, vs, h3, h4⟩ := ce.2 _ _ q
      rw [h1] at h2
      cases h2
      exact ⟨a, vs, rfl, .inl h3, h4⟩
    · rename_i q
      cases h
      obtain ⟨b, h2, h3⟩ := ce.2 _ _ q
      rw [h1] at h2
      cases h2
      exact dk_rdD h3
    · cases h
  · cases h
theorem dtOf_ok {x : P} {v : V} {kvs : List (List Key × D)} (ce : Cells K p l) (r : RP K p x v) (h : dtOf l x = some kvs) : ∃ a vs, v = .ref a ∧ Rd p.H a (.dT (zipV kvs vs)) ∧ RDs K p (kvs.map (·.2)) vs := by
  unfold dtOf at h
  split at h
  · cases h
    exact dt_rdD r
  · obtain ⟨a, h1, rfl⟩ := r
    split at h
    · rename_i q
      cases h
      obtain ⟨b, h2, nf, vs, h3, h4⟩ := ce.2 _ _ q
      rw [h1] at h2
      cases h2
      exact ⟨a, vs, rfl, .inl h3, h4⟩
    · rename_i q
      cases h
      obtain ⟨b, h2, h3⟩ := ce.2 _ _ q
      rw [h1] at h2
      cases h2
      exact dt_rdD h3
    · cases h
  · cases h
/-- what stands at the key y, if x is a dict and y a key of its kind -/
def dLook (l : LS) (x y : P) : Option (Option D) := match y with
  | .d y => match dkOf l x with
    | some kvs => (keyD y).map (valD kvs)
    | none => match dtOf l x with
      | some kvs => (keyT y).map (valD kvs)
      | none => none
  | _ => none
theorem dLook_ok {x y : P} {vx vy : V} {o : Option D} (ce : Cells K p l) (rx : RP K p x vx) (ry : RP K p y vy) (h : dLook l x y = some o) :
    ∃ a ov, vx = .ref a ∧ DGet p.H a vy ov ∧ ((∃ d v, o = some d ∧ ov = some v ∧ RD K p d v) ∨ (o = none ∧ ov = none)) := by
  unfold dLook at h
  split at h
  · split at h
    · rename_i kvs hx
      obtain ⟨k, hk, rfl⟩ := Option.map_eq_some_iff.mp h
      obtain ⟨a, vs, rfl, h1, h2⟩ := dkOf_ok ce rx hx
      have e := keyD_ok ry hk
      subst e
      refine ⟨a, _, rfl, .inl ⟨_, k, h1, rfl, rfl⟩, ?_⟩
      rcases valD_ok k h2 with ⟨d, v, g1, g2, g3⟩ | ⟨g1, g2⟩
      · exact .inl ⟨d, v, g1, g2, g3⟩
      · exact .inr ⟨g1, g2⟩
    · split at h
      · rename_i kvs hx
        obtain ⟨k, hk, rfl⟩ := Option.map_eq_some_iff.mp h
        obtain ⟨a, vs, rfl, h1, h2⟩ := dtOf_ok ce rx hx
        obtain ⟨b, rfl, hb⟩ := keyT_ok ry hk
        refine ⟨a, _, rfl, .inr ⟨_, k, b, h1, rfl, hb, rfl⟩, ?_⟩
        rcases valD_ok k h2 with ⟨d, v, g1, g2, g3⟩ | ⟨g1, g2⟩
        · exact .inl ⟨d, v, g1, g2, g3⟩
        · exact .inr ⟨g1, g2⟩
      · cases h
  · cases h
/-! ### d[k], k in d -/
def rDGet : R2 := fun x y H Q => ∃ a v, x = .ref a ∧ DGet H a y (some v) ∧ Q v H
def oDGet (x y : P) (l : LS) (Q : P → LS → Prop) : Prop := ∃ d, dLook l x y = some (some d) ∧ Q (.d d) l
theorem ref_dget : RefOp K rDGet oDGet := fun p l x y vx vy Qd Q w ce rx ry ⟨d, h, q⟩ k => by
  obtain ⟨a, ov, rfl, g, ⟨d', v, e1, rfl, r⟩ | ⟨e, _⟩⟩ := dLook_ok ce rx ry h
  · cases e1
    exact ⟨a, v, rfl, g, k.same w ce (d := .d d) r q⟩
  · cases e
def rDIn (neg : Bool) : R2 := fun y x H Q => ∃ a o, x = .ref a ∧ DGet H a y o ∧ Q (.bl (if neg then !o.isSome else o.isSome)) H
def oDIn (neg : Bool) (y x : P) (l : LS) (Q : P → LS → Prop) : Prop := ∃ o, dLook l x y = some o ∧ Q (.d (.bl (if neg then !o.isSome else o.isSome))) l
theorem ref_din {neg : Bool} : RefOp K (rDIn neg) (oDIn neg) := fun p l y x vy vx Qd Q w ce ry rx ⟨o, h, q⟩ k => by
  obtain ⟨a, ov, rfl, g, hh⟩ := dLook_ok ce rx ry h
  have e : o.isSome = ov.isSome := by rcases hh with ⟨d, v, rfl, rfl, _⟩ | ⟨rfl, rfl⟩ <;> rfl
  rw [e] at q
  exact ⟨a, ov, rfl, g, k.same w ce (d := .d _) (RD.bl _) q⟩
end
theorem op_din {X : Cx} (hu : X.A.units + 1 < cLine) : OpR X (compareOp .In) (rDIn false) := fun pins s σ H x y v u Q I rx ry ⟨a, o, ey, g, q⟩ => by
  subst ey
  obtain rfl : u = Value.ref a := ry
  exact d_in hu I g rx fun s3 I3 => ⟨.bl o.isSome, H, I3, rfl, q⟩
theorem op_dnotin {X : Cx} (hu : X.A.units + 1 < cLine) : OpR X (compareOp .NotIn) (rDIn true) := fun pins s σ H x y v u Q I rx ry ⟨a, o, ey, g, q⟩ => by
  subst ey
  obtain rfl : u = Value.ref a := ry
  exact d_notIn hu I g rx fun s3 I3 => ⟨.bl (!o.isSome), H, I3, rfl, q⟩
section
variable {X : Cx} {W : WX} {a b e o i f : Expr} {wa wb we wo wi wf : WE} {pos : Pos}
theorem qe_dget (hu : X.A.units + 1 < cLine) (ha : QE X W a wa) (hb : QE X W b wb) (hs : PlainIx b) : QE X W (.Subscript a b pos) (wOp oDGet wa wb) := PE.imp (pe_dget hu ha hb hs) fun _ _ _ h => op_ok (r := rDGet) ref_dget h
/-! ### {} -/
def wNewK (_ : SS) (l : LS) (Q : P → LS → Prop) (_ : EK) : Prop := Q (.loc l.length) (l ++ [.dk []])
def wNewT (_ : SS) (l : LS) (Q : P → LS → Prop) (_ : EK) : Prop := Q (.loc l.length) (l ++ [.dt []])
theorem qe_newK : QE X W (.Dict [] [] pos) wNewK := PE.imp pe_dnewK fun σ H Q ⟨p, σd, l, Qd, Ed, hH, R, hw, k, lk⟩ => by
  subst hH
  refine fun a ha => k (.loc l.length) (l ++ [.dk []]) (.ref a) (p.new a (.dK [])) (ext_new ha) (R.ext (ext_new ha) (wf_new R.wf ha) (Cells.new (c := .dk []) R.wf R.ce ha (show CellOk X.K (p.new a (.dK [])) (.dk []) a from ⟨fun z => R.wf.nF ha z, [], upd_same, .nil⟩))) ⟨a, ?_, rfl⟩ (show Qd (.loc l.length) (l ++ [.dk []]) from hw)
  show (p.rho ++ [a])[l.length]? = some a
  rw [R.ce.1, List.getElem?_append_right (Nat.le_refl _)]
  simp
theorem qe_newT : QE X W (.Dict [] [] pos) wNewT := PE.imp pe_dnewT fun σ H Q ⟨p, σd, l, Qd, Ed, hH, R, hw, k, lk⟩ => by
  subst hH
  refine fun a ha => k (.loc l.length) (l ++ [.dt []]) (.ref a) (p.new a (.dT [])) (ext_new ha) (R.ext (ext_new ha) (wf_new R.wf ha) (Cells.new (c := .dt []) R.wf R.ce ha (show CellOk X.K (p.new a (.dT [])) (.dt []) a from ⟨fun z => R.wf.nF ha z, [], upd_same, .nil⟩))) ⟨a, ?_, rfl⟩ (show Qd (.loc l.length) (l ++ [.dt []]) from hw)
  show (p.rho ++ [a])[l.length]? = some a
  rw [R.ce.1, List.getElem?_append_right (Nat.le_refl _)]
  simp
/-! ### d[k] = v -/
def rSetD : TSet := fun o i v H Q => ∃ a H', o = .ref a ∧ DPut H a i v H' ∧ Q H'
theorem set_dict (hu : X.A.units + 1 < cLine) : PSet X rSetD := fun pins s σ H o i v ov iv u Q I ro ri rv ⟨a, H', eo, g, q⟩ => by
  subst eo
  obtain rfl : ov = Value.ref a := ro
  exact d_setItem hu I g ri rv fun s' I' => ⟨H', I', q⟩
/-- the cells behind d[k] = v -/
def dPut (l : LS) (n : Nat) (y v : D) : Option LS := match l[n]? with
  | some (.dk kvs) => (keyD y).map fun k => l.set n (.dk (putD kvs k v))
  | some (.dt kvs) => (keyT y).map fun k => l.set n (.dt (putD kvs k v))
  | _ => none
def dLen (l : LS) (n : Nat) : Nat := match l[n]? with
  | some (.dk kvs) => kvs.length
  | some (.dt kvs) => kvs.length
  | _ => 0
theorem zipV_len {κ : Type} {K : PySem.W.Frag} {p : Pt} {kvs : List (κ × D)} {vs : List V} (h : RDs K p (kvs.map (·.2)) vs) : (zipV kvs vs).length = kvs.length := by
  have := h.len
  simp at this
  simp [zipV, ← this]
theorem dPut_ok {K : PySem.W.Frag} {p : Pt} {l l' : LS} {n : Nat} {y v : D} {vx vy vv : V} (w : WF p) (ce : Cells K p l) (rx : RP K p (.loc n) vx) (ry : RD K p y vy) (rv : RD K p v vv) (h : dPut l n y v = some l') (hz : dLen l n < sizeLine) :
    ∃ a H', vx = .ref a ∧ DPut p.H a vy vv H' ∧ ∃ p', p'.H = H' ∧ Ext p p' ∧ WF p' ∧ Cells K p' l' := by
  obtain ⟨a, h1, rfl⟩ := rx
  have hr := List.mem_of_getElem? h1
  unfold dPut at h
  unfold dLen at hz
  split at h
  · rename_i kvs q
    rw [q] at hz
    obtain ⟨k, hk, rfl⟩ := Option.map_eq_some_iff.mp h
    obtain ⟨b, h2, nf, vs, h3, h4⟩ := ce.2 n _ q
    rw [h1] at h2
    cases h2
    have e := keyD_ok ry hk
    subst e
    obtain ⟨us, g1, g2⟩ := putD_ok k rv h4
    refine ⟨a, _, rfl, DPut.k h3 (by rw [show ((kvs.map (·.1)).zip vs).length = _ from zipV_len h4]; exact hz), p.put a (.dK (putK (zipV kvs vs) k vv)), rfl, ext_put hr nf (fun _ z => by rw [h3] at z; cases z), wf_put w, Cells.put w ce h1 nf (fun _ z => by rw [h3] at z; cases z) ?_⟩
    exact ⟨nf, us, by show upd _ _ _ _ = _; rw [upd_same, g1]; rfl, g2.mono (ext_put hr nf (fun _ z => by rw [h3] at z; cases z)).hf⟩
  · rename_i kvs q
    rw [q] at hz
    obtain ⟨k, hk, rfl⟩ := Option.map_eq_some_iff.mp h
    obtain ⟨b, h2, nf, vs, h3, h4⟩ := ce.2 n _ q
    rw [h1] at h2
    cases h2
    obtain ⟨c, rfl, hc⟩ := keyT_ok ry hk
    obtain ⟨us, g1, g2⟩ := putD_ok k rv h4
    refine ⟨a, _, rfl, DPut.t h3 hc (by rw [show ((kvs.map (·.1)).zip vs).length = _ from zipV_len h4]; exact hz), p.put a (.dT (putK (zipV kvs vs) k vv)), rfl, ext_put hr nf (fun _ z => by rw [h3] at z; cases z), wf_put w, Cells.put w ce h1 nf (fun _ z => by rw [h3] at z; cases z) ?_⟩
    exact ⟨nf, us, by show upd _ _ _ _ = _; rw [upd_same, g1]; rfl, g2.mono (ext_put hr nf (fun _ z => by rw [h3] at z; cases z)).hf⟩
  · cases h
def kSubD2 (d : P) (σ : SS) (x : P) (Q : SS → LS → Prop) (y : P) (l : LS) : Prop := match d, x, y with
  | .d v, .loc n, .d k => dLen l n < sizeLine ∧ ∃ l', dPut l n k v = some l' ∧ Q σ l'
  | _, _, _ => False
def kSubD1 (wi : WE) (d : P) (σ : SS) (Q : SS → LS → Prop) (x : P) (l : LS) : Prop := wi σ l (kSubD2 d σ x Q) noEx
def gSubD (wo wi : WE) (d : P) (σ : SS) (l : LS) (Q : SS → LS → Prop) : Prop := wo σ l (kSubD1 wi d σ Q) noEx
theorem qg_subD (hu : X.A.units + 1 < cLine) (ho : QE X W o wo) (hi : QE X W i wi)
    (ha : ∀ v, assign (.Subscript o i pos) X.env v = (do
      let ov ← holding [v] (eval o X.env)
      let iv ← holding [v, ov] (eval i X.env)
      standAt pos
      holding [v, ov, iv] (setItem ov iv v)
      release [v, ov, iv] []) := by intro _; rfl) : QG X (.Subscript o i pos) (gSubD wo wi) := PG.imp (pg_sub ho hi (set_dict hu) ha) fun v σ H Q ⟨p, σd, l, d, Qd, hH, R, r, hw, k⟩ => by
  subst hH
  refine cE_ok R hw LinkE.never fun x l1 vx p1 e1 R1 r1 q1 => cE_ok R1 q1 LinkE.never fun y l2 vy p2 e2 R2 r2 q2 => ?_
  unfold kSubD2 at q2
  split at q2
  · obtain ⟨hz, l', h, q⟩ := q2
    obtain ⟨a, H', rfl, g, p3, rfl, e3, w3, c3⟩ := dPut_ok R2.wf R2.ce (r1.mono e2) r2 (RD.mono (e1.trans e2).hf r) h hz
    exact ⟨a, p3.H, rfl, g, k p3 σ σd l' ((e1.trans e2).trans e3) (R2.ext e3 w3 c3) q⟩
  · exact q2.elim
/-! ### d.get(k, x) -/
def kGet3 (x y : P) (Q : P → LS → Prop) (z : P) (l : LS) : Prop := match z with
  | .d z => ∃ o, dLook l x y = some o ∧ Q (.d (o.getD z)) l
  | _ => False
def kGet2 (wf : WE) (σ : SS) (x : P) (Q : P → LS → Prop) (E : EK) (y : P) (l : LS) : Prop := wf σ l (kGet3 x y Q) E
def kGet1 (wi wf : WE) (σ : SS) (Q : P → LS → Prop) (E : EK) (x : P) (l : LS) : Prop := ((dkOf l x).isSome = true ∨ (dtOf l x).isSome = true) ∧ wi σ l (kGet2 wf σ x Q E) E
def wGet (wo wi wf : WE) (σ : SS) (l : LS) (Q : P → LS → Prop) (E : EK) : Prop := wo σ l (kGet1 wi wf σ Q E) E
theorem isD_ok {K : PySem.W.Frag} {p : Pt} {l : LS} {x : P} {v : V} (ce : Cells K p l) (r : RP K p x v) (h : (dkOf l x).isSome = true ∨ (dtOf l x).isSome = true) : ∃ a, v = .ref a ∧ IsD p.H a := by
  rcases h with h | h
  · obtain ⟨kvs, e⟩ := Option.isSome_iff_exists.mp h
    obtain ⟨a, vs, rfl, h1, _⟩ := dkOf_ok ce r e
    exact ⟨a, rfl, .inl ⟨_, h1⟩⟩
  · obtain ⟨kvs, e⟩ := Option.isSome_iff_exists.mp h
    obtain ⟨a, vs, rfl, h1, _⟩ := dtOf_ok ce r e
    exact ⟨a, rfl, .inr ⟨_, h1⟩⟩
theorem qe_get2 {apos cpos : Pos} (hu : X.A.units + 1 < cLine) (ho : QE X W o wo) (he : QE X W e we) (hf : QE X W f wf) (m : M2 X o "get" apos e f cpos) : QE X W (.Call (.Attribute o "get" apos) [e, f] [] cpos) (wGet wo we wf) :=
  PE.imp (pe_dget2 hu ho he hf m) fun σ H Q ⟨p, σd, l, Qd, Ed, hH, R, hw, k, lk⟩ => by
    subst hH
    refine cE_ok R hw lk fun x l1 vx p1 e1 R1 r1 ⟨hd, q1⟩ => ?_
    obtain ⟨a, rfl, hD⟩ := isD_ok R1.ce r1 hd
    refine ⟨a, rfl, hD, cE_ok R1 q1 (lk.mono e1) fun y l2 vy p2 e2 R2 r2 q2 => cE_ok R2 q2 (lk.mono (e1.trans e2)) fun z l3 vz p3 e3 R3 r3 q3 => ?_⟩
    unfold kGet3 at q3
    split at q3
    · obtain ⟨ov, ho, q⟩ := q3
      obtain ⟨a', o', ea, g, hh⟩ := dLook_ok R3.ce (r1.mono (e2.trans e3)) (r2.mono e3) ho
      cases ea
      refine ⟨o', g, k _ _ _ p3 ((e1.trans e2).trans e3) R3 ?_ q⟩
      rcases hh with ⟨d, v, rfl, rfl, r⟩ | ⟨rfl, rfl⟩
      · exact r
      · exact r3
    · exact q3.elim
end
end QL
set_option Elab.async false
set_option linter.all false
set_option maxRecDepth 100000
set_option maxHeartbeats 4000000
/-! QD2: a display of one pair. -/
namespace QL
open PySem L2 PySem.Spec PyProof.Rows
def tDisp1T (tk tv : TE) : TE := fun σ H Q => ∀ p, H p = none → tk σ (upd H p (.dT [])) fun y H1 => tv σ H1 fun v H2 => H2 p = some (.dT []) ∧ ∃ b k, y = .ref b ∧ H2 b = some (.tup (k.map kV)) ∧ Q (.ref p) (upd H2 p (.dT [(k, v)]))
theorem pe_disp1T {X : Cx} {pos : Pos} {k v : Expr} {tk tv : TE} (hu : X.A.units + 1 < cLine) (hk : PE X k tk) (hv : PE X v tv) : PE X (.Dict [some k] [v] pos) (tDisp1T tk tv) := by
  refine ⟨fun pins s σ H Q I q => ?_⟩
  have hn := I.hok.fresh (Nat.le_refl s.heap.objs.size)
  have I1 := I.laid (a := s.heap.objs.size) (o := .dT []) (h' := s.heap.push { cls := .type "dict", data := .dict #[] }) (t' := s.toks) (fun _ _ q => Heap.get?_push_of_some _ q) (Nat.le_refl _) (dt_empty s.heap I.big)
  have hw := (pps_cons (pos := pos) hk hv pps_nil).run pins _ σ _ (fun ps H2 => match ps with
    | [(y, v)] => H2 s.heap.objs.size = some (.dT []) ∧ ∃ b k, y = .ref b ∧ H2 b = some (.tup (k.map kV)) ∧ Q (.ref s.heap.objs.size) (upd H2 s.heap.objs.size (.dT [(k, v)]))
    | _ => False) I1 (q _ hn)
  have hl : (pairTrees [some k] [v] X.env pos).length = 1 := pairTrees_length _ _ _ _ rfl rfl
  rw [arm_eval_Dict, zip_pairTrees [some k] [v] X.env pos rfl rfl, dictDisplay_pairs _ (by intro z; rw [z] at hl; cases hl) (by omega)]
  refine wpAny_bind (wpAny_standAt (wpAny_bind (wpAny_subDictH (knd := tupleKind (mixKind X.prog X.w)) (show X.A.units < cLine from Nat.lt_of_succ_lt hu) (by omega) (thn hw fun ws s2 ⟨ps, H2, I2, rel, q2⟩ => ?_))))
  cases rel with
  | nil => exact q2.elim
  | @cons p1 w1 ps ws r0 t =>
    cases t with
    | cons _ _ => exact q2.elim
    | nil =>
      obtain ⟨y, vv⟩ := p1
      obtain ⟨wy, wv⟩ := w1
      obtain ⟨e, b, kk, ey, hb, q2⟩ := q2
      subst ey
      obtain ⟨ry, rv⟩ := r0
      obtain rfl : wy = Value.ref b := ry
      obtain ⟨z, hd, xs, r1, dd⟩ := dt_of I2.hok e
      cases r1
      refine ⟨[(kk, b, wv)], ⟨rfl, rfl, key_of I2.hok hb, True.intro⟩, dd, fun h' tk dd' hs => wpAny_pure ⟨.ref s.heap.objs.size, _, ?_, rfl, q2⟩⟩
      have e1 : storedAllH [] [(kk, b, wv)] = [(kk, b, wv)] := rfl
      rw [e1] at dd'
      obtain ⟨qo, es, ep, hq, h2, h3, h4, _, h5⟩ := dd'
      refine d_write I2 (by rw [e]; exact True.intro) hs ⟨qo, hq⟩ ⟨by rw [List.length_singleton, sizeLine_eq]; omega, hd, [(kk, b, wv)], .cons ⟨rfl, ?_, rv⟩ .nil, qo, es, ep, hq, h2, h3, h4, h5⟩
      rw [upd_ne (ne_of hb e (fun z => nomatch z))]
      exact hb
/-! ### an object that is made before its parts -/
section
variable {K : PySem.W.Frag} {p p2 : Pt} {a : Addr} {l l2 : LS}
abbrev Pt.hid (p : Pt) (a : Addr) (o : HO) : Pt := ⟨upd p.H a o, p.rho, p.F⟩
theorem hid_ext {o : HO} (ha : p.H a = none) : Ext p (p.hid a o) :=
  ⟨⟨[], by simp⟩, fun _ z => .inl z, fun _ z => z, fun _ z => .inl z, fun b u z _ => by show upd _ _ _ _ = _; rw [upd_ne (ne_of_none z ha)]; exact z, fun b u z _ => by show upd _ _ _ _ = _; rw [upd_ne (ne_of_none z ha)]; exact z, fun b u z => upd_some z, fun b u z => by show upd _ _ _ _ = _; rw [upd_ne (ne_of_none z ha)]; exact z⟩
theorem hid_wf {o : HO} (w : WF p) : WF (p.hid a o) :=
  ⟨w.nd, fun b m => let ⟨_, z⟩ := w.hs b m; upd_some z, fun b m => let ⟨_, z⟩ := w.fs b m; upd_some z⟩
theorem hid_cells {o : HO} (w : WF p) (ce : Cells K p l) (ha : p.H a = none) : Cells K (p.hid a o) l := by
  refine ⟨ce.1, fun i c e => ?_⟩
  obtain ⟨b, h1, h2⟩ := ce.2 i c e
  have nb : b ≠ a := fun z => w.nrho ha (by rw [← z]; exact List.mem_of_getElem? h1)
  exact ⟨b, h1, h2.mono (hid_ext ha) (by show upd _ _ _ _ = _; rw [upd_ne nb]) fun z => z⟩
abbrev Pt.shw (p : Pt) (a : Addr) (o : HO) : Pt := ⟨upd p.H a o, p.rho ++ [a], p.F⟩
theorem hid_out {o : HO} (w : WF p) (ha : p.H a = none) (e : Ext (p.hid a o) p2) : p2.H a = some o ∧ a ∉ p2.rho ∧ ¬ p2.F a := by
  have nr := w.nrho ha
  have nf := w.nF ha
  have h1 : (p.hid a o).H a = some o := upd_same
  refine ⟨e.keep a o h1 nr, fun m => ?_, fun m => ?_⟩
  · rcases e.new a m with z | z
    · exact nr z
    · rw [h1] at z; cases z
  · rcases e.fn a m with z | z | z
    · exact nf z
    · rw [h1] at z; cases z
    · exact nr z
theorem shw_ok {o o3 : HO} {c : Cell} (ho : ∀ vs, o ≠ .tup vs) (w : WF p) (ha : p.H a = none) (e : Ext (p.hid a o) p2) (w2 : WF p2) (c2 : Cells K p2 l2) (hc : CellOk K (p2.shw a o3) c a) : Ext p (p2.shw a o3) ∧ WF (p2.shw a o3) ∧ Cells K (p2.shw a o3) (l2 ++ [c]) ∧ HF p2 (p2.shw a o3) := by
  obtain ⟨h1, nr, nf⟩ := hid_out w ha e
  have e0 : Ext p p2 := (hid_ext ha).trans e
  have hf : HF p2 (p2.shw a o3) := ⟨fun _ z => z, fun b u z f => by show upd _ _ _ _ = _; rw [upd_ne fun q => nf (by rw [← q]; exact f)]; exact z, fun b u z => by show upd _ _ _ _ = _; rw [upd_ne fun q => by rw [q, h1] at z; injection z with z; exact ho _ z]; exact z⟩
  obtain ⟨t, ht⟩ := e0.pre
  refine ⟨⟨⟨t ++ [a], by show p2.rho ++ [a] = _; rw [ht, List.append_assoc]⟩, fun b z => ?_, e0.fm, e0.fn, fun b u z n => ?_, fun b u z n => ?_, fun b u z => ?_, fun b u z => by show upd _ _ _ _ = _; rw [upd_ne (ne_of_none z ha)]; exact e0.tups b u z⟩, ⟨?_, fun b m => ?_, fun b m => ?_⟩, ⟨by simp [c2.1], fun i d q => ?_⟩, hf⟩
  · rcases List.mem_append.mp z with z | z
    · exact e0.new b z
    · simp at z
      exact .inr (by rw [z]; exact ha)
  · show upd _ _ _ _ = _
    rw [upd_ne (ne_of_none z ha)]; exact e0.keep b u z n
  · show upd _ _ _ _ = _
    rw [upd_ne (ne_of_none z ha)]; exact e0.keepF b u z n
  · obtain ⟨o', z'⟩ := e0.there b u z
    exact upd_some z'
  · show (p2.rho ++ [a]).Nodup
    rw [List.nodup_append]
    refine ⟨w2.nd, by simp, fun x hx y hy q => ?_⟩
    simp at hy
    exact nr (by rw [← hy, ← q]; exact hx)
  · rcases List.mem_append.mp m with m | m
    · obtain ⟨u, z⟩ := w2.hs b m
      exact upd_some z
    · simp at m
      exact ⟨o3, by show upd _ _ _ _ = _; rw [m, upd_same]⟩
  · obtain ⟨u, z⟩ := w2.fs b m
    exact upd_some z
  · by_cases hi : i < l2.length
    · rw [List.getElem?_append_left hi] at q
      obtain ⟨b, q1, q2⟩ := c2.2 i d q
      have nb : b ≠ a := fun z => nr (by rw [← z]; exact List.mem_of_getElem? q1)
      refine ⟨b, ?_, q2.hf hf (by show upd _ _ _ _ = _; rw [upd_ne nb]) fun z => z⟩
      show (p2.rho ++ [a])[i]? = _
      rw [List.getElem?_append_left (by rw [← c2.1]; exact hi)]
      exact q1
    · have hi' : i = l2.length := by
        have := (List.getElem?_eq_some_iff.mp q).1
        simp at this
        omega
      subst hi'
      rw [List.getElem?_append_right (Nat.le_refl _)] at q
      simp at q
      subst q
      refine ⟨a, ?_, hc⟩
      show (p2.rho ++ [a])[l2.length]? = _
      rw [c2.1, List.getElem?_append_right (Nat.le_refl _)]
      simp
end
def mkK (y v : D) : Option Cell := (keyD y).map fun k => .dk [(k, v)]
def mkT (y v : D) : Option Cell := (keyT y).map fun k => .dt [(k, v)]
def kDs2 (mk : D → D → Option Cell) (y : P) (Q : P → LS → Prop) (v : P) (l : LS) : Prop := match y, v with
  | .d y, .d v => ∃ c, mk y v = some c ∧ Q (.loc l.length) (l ++ [c])
  | _, _ => False
def kDs1 (mk : D → D → Option Cell) (wv : WE) (σ : SS) (Q : P → LS → Prop) (E : EK) (y : P) (l : LS) : Prop := wv σ l (kDs2 mk y Q) E
def wDs (mk : D → D → Option Cell) (wk wv : WE) (σ : SS) (l : LS) (Q : P → LS → Prop) (E : EK) : Prop := wk σ l (kDs1 mk wv σ Q E) E
section
variable {X : Cx} {W : WX} {e f : Expr} {we wf : WE} {pos : Pos}
theorem shw_ref {K : PySem.W.Frag} {p2 : Pt} {a : Addr} {o : HO} {l2 : LS} (c2 : Cells K p2 l2) : RP K (p2.shw a o) (.loc l2.length) (.ref a) := ⟨a, by
  show (p2.rho ++ [a])[l2.length]? = some a
  rw [c2.1, List.getElem?_append_right (Nat.le_refl _)]
  simp, rfl⟩
theorem qe_dispT (hu : X.A.units + 1 < cLine) (hk : QE X W e we) (hv : QE X W f wf) : QE X W (.Dict [some e] [f] pos) (wDs mkT we wf) := PE.imp (pe_disp1T hu hk hv) fun σ H Q ⟨p, σd, l, Qd, Ed, hH, R, hw, k, lk⟩ => by
  subst hH
  refine fun a ha => ?_
  have e0 : Ext p (p.hid a (.dT [])) := hid_ext ha
  have R0 : Rel X.K (p.hid a (.dT [])) σ σd l := R.ext e0 (hid_wf R.wf) (hid_cells R.wf R.ce ha)
  refine cE_ok R0 hw (lk.mono e0) fun y l1 vy p1 e1 R1 r1 q1 => cE_ok R1 q1 (lk.mono (e0.trans e1)) fun v l2 vv p2 e2 R2 r2 q2 => ?_
  have e12 := e1.trans e2
  obtain ⟨h1, nr, nf⟩ := hid_out R.wf ha e12
  unfold kDs2 at q2
  split at q2
  · obtain ⟨c, hc, q⟩ := q2
    obtain ⟨kk, hk, rfl⟩ := Option.map_eq_some_iff.mp hc
    obtain ⟨b, rfl, hb⟩ := keyT_ok (RD.mono e2.hf r1) hk
    refine ⟨h1, b, kk, rfl, hb, ?_⟩
    have hf : HF p2 (p2.shw a (.dT [(kk, vv)])) := ⟨fun _ z => z, fun b u z f => by show upd _ _ _ _ = _; rw [upd_ne fun q => nf (by rw [← q]; exact f)]; exact z, fun b u z => by show upd _ _ _ _ = _; rw [upd_ne fun q => by rw [q, h1] at z; cases z]; exact z⟩
    obtain ⟨e3, w3, c3, _⟩ := shw_ok (o := .dT []) (fun _ z => nomatch z) (o3 := .dT [(kk, vv)]) R.wf ha e12 R2.wf R2.ce (show CellOk X.K (p2.shw a (.dT [(kk, vv)])) (.dt [(kk, _)]) a from ⟨nf, [vv], upd_same, .cons (RD.mono hf r2) .nil⟩)
    exact k _ _ _ (p2.shw a (.dT [(kk, vv)])) e3 (R.ext e3 w3 c3) (shw_ref R2.ce) q
  · exact q2.elim
theorem qe_dispK (hk : QE X W e we) (hv : QE X W f wf) : QE X W (.Dict [some e] [f] pos) (wDs mkK we wf) := PE.imp (pe_disp (pps_cons hk hv pps_nil) (by rfl) (by rfl) (by intro z; cases z) (by show 1 ≤ 15; decide)) fun σ H Q ⟨p, σd, l, Qd, Ed, hH, R, hw, k, lk⟩ => by
  subst hH
  refine fun a ha => ?_
  have e0 : Ext p (p.hid a (.dK [])) := hid_ext ha
  have R0 : Rel X.K (p.hid a (.dK [])) σ σd l := R.ext e0 (hid_wf R.wf) (hid_cells R.wf R.ce ha)
  refine cE_ok R0 hw (lk.mono e0) fun y l1 vy p1 e1 R1 r1 q1 => cE_ok R1 q1 (lk.mono (e0.trans e1)) fun v l2 vv p2 e2 R2 r2 q2 => ?_
  have e12 := e1.trans e2
  obtain ⟨h1, nr, nf⟩ := hid_out R.wf ha e12
  unfold kDs2 at q2
  split at q2
  · obtain ⟨c, hc, q⟩ := q2
    obtain ⟨kk, hk, rfl⟩ := Option.map_eq_some_iff.mp hc
    have ek := keyD_ok (RD.mono e2.hf r1) hk
    subst ek
    refine ⟨h1, [(kk, vv)], rfl, by simp, ?_⟩
    have hf : HF p2 (p2.shw a (.dK [(kk, vv)])) := ⟨fun _ z => z, fun b u z f => by show upd _ _ _ _ = _; rw [upd_ne fun q => nf (by rw [← q]; exact f)]; exact z, fun b u z => by show upd _ _ _ _ = _; rw [upd_ne fun q => by rw [q, h1] at z; cases z]; exact z⟩
    obtain ⟨e3, w3, c3, _⟩ := shw_ok (o := .dK []) (fun _ z => nomatch z) (o3 := .dK [(kk, vv)]) R.wf ha e12 R2.wf R2.ce (show CellOk X.K (p2.shw a (.dK [(kk, vv)])) (.dk [(kk, _)]) a from ⟨nf, [vv], upd_same, .cons (RD.mono hf r2) .nil⟩)
    exact k _ _ _ (p2.shw a (.dK [(kk, vv)])) e3 (R.ext e3 w3 c3) (shw_ref R2.ce) q
  · exact q2.elim
end
end QL
set_option Elab.async false
set_option linter.all false
set_option maxRecDepth 100000
set_option maxHeartbeats 4000000
/-! QD3: len of a dict. -/
open PySem L2 in
theorem L2.Room.u1 {k : Nat} {A : Around} (r : Room k A) : A.units + 1 < cLine := by have := r.un; omega
namespace QL
open PySem L2
def rLenDc : List V → Hp → VK → Prop := fun xs H Q => (∃ a kvs, xs = [V.ref a] ∧ Rd H a (.dK kvs) ∧ Q (.int kvs.length) H) ∨ ∃ a kvs, xs = [V.ref a] ∧ Rd H a (.dT kvs) ∧ Q (.int kvs.length) H
theorem call_lenDc {X : Cx} : CallR X (.builtin "len") rLenDc := fun pins s σ H xs us Q I r h => by
  rcases h with ⟨a, kvs, rfl, ha, q⟩ | ⟨a, kvs, rfl, ha, q⟩
  · obtain ⟨u, rfl, ru⟩ := vals1 r
    cases ru
    exact d_len I ha fun t s' I' => ⟨.int kvs.length, H, I', ⟨_, rfl⟩, q⟩
  · obtain ⟨u, rfl, ru⟩ := vals1 r
    cases ru
    obtain ⟨z, hd, ys, rel, dd⟩ := dt_rd I.hok ha
    have e : kvs.length = ys.length := Paired.length rel
    refine call_len_dictH hd dd (by rw [← e]; rw [sizeLine_eq] at z; omega) ?_
    rw [← e]
    exact ⟨.int kvs.length, H, I.tok _, ⟨_, rfl⟩, q⟩
def bLenDc (xs : List P) (l : LS) (Q : P → LS → Prop) : Prop := match xs with
  | [x] => match dkOf l x with
    | some kvs => Q (.d (.int (kvs.length : Int))) l
    | none => match dtOf l x with
      | some kvs => Q (.d (.int (kvs.length : Int))) l
      | none => False
  | _ => False
theorem ref_lenDc {K : PySem.W.Frag} : RefCall K rLenDc bLenDc := fun p l xs vs Qd Q w ce rx h k => by
  unfold bLenDc at h
  split at h
  · obtain ⟨v, rfl, r⟩ := rx.one
    split at h
    · rename_i kvs hy
      obtain ⟨a, us, rfl, h1, h2⟩ := dkOf_ok ce r hy
      refine .inl ⟨a, _, rfl, h1, ?_⟩
      rw [zipV_len h2]
      exact k.same w ce (d := .d _) (RD.int _) h
    · split at h
      · rename_i kvs hy
        obtain ⟨a, us, rfl, h1, h2⟩ := dtOf_ok ce r hy
        refine .inr ⟨a, _, rfl, h1, ?_⟩
        rw [zipV_len h2]
        exact k.same w ce (d := .d _) (RD.int _) h
      · exact h.elim
  · exact h.elim
/-- over a tuple or a list -/
def iOr (w1 w2 : WI) (σ : SS) (l : LS) (R : Items → LS → Prop) (E : EK) : Prop := w1 σ l R E ∨ w2 σ l R E
theorem qi_or {X : Cx} {W : WX} {tg e : Expr} {w1 w2 : WI} (h1 : QI X W tg e w1) (h2 : QI X W tg e w2) : QI X W tg e (iOr w1 w2) := ⟨fun pins s σ H R I ⟨p, σd, l, Rd, Ed, hH, R0, hw, k, lk⟩ => by
  rcases hw with hw | hw
  · exact h1.run pins s σ H R I ⟨p, σd, l, Rd, Ed, hH, R0, hw, k, lk⟩
  · exact h2.run pins s σ H R I ⟨p, σd, l, Rd, Ed, hH, R0, hw, k, lk⟩⟩
end QL
set_option Elab.async false
set_option linter.all false
set_option maxRecDepth 100000
set_option maxHeartbeats 4000000
/-! QD4: walks of a dict; dicts of lists that grow (setdefault, get); statements that are never reached. -/
open PySem PySem.Spec PyProof.Rows in
/-- d.setdefault(k, x), keys of either kind -/
theorem L2.d_setdT {X : L2.Cx} {pins : List (Addr × Obj)} {σ : L2.St} {H : L2.Hp} {s : Shared} {a b : Addr} {r : Value} {d : L2.V} {k : List L2.Key} {A : Around} {E : Value → Shared → Prop} {kvs : List (List L2.Key × L2.V)} {Q : Value → Shared → Prop} (hu : A.units + 1 < cLine) (I : L2.Inv X pins σ H s) (e : H a = some (.dT kvs)) (eb : H b = some (.tup (k.map L2.kV))) (rd : L2.RelV d r) (hl : kvs.length < sizeLine)
    (h1 : ∀ v, L2.valV kvs k = some v → ∀ (w' : Value) (s' : Shared), L2.Inv X pins σ H s' → L2.RelV v w' → Q w' s') (h2 : L2.valV kvs k = none → ∀ (w' : Value) (s' : Shared), L2.Inv X pins σ (L2.upd H a (.dT (L2.putK kvs k d))) s' → L2.RelV d w' → Q w' s') :
    wpAny (model X.prog X.w) A (call (.builtin "dict.setdefault") [.ref a, .ref b, r]) Q E s := by
  open L2 in
  obtain ⟨z, hd, xs, rel, dd⟩ := dt_of I.hok e
  have hz : xs.length ≤ sizeLine := by rw [← Paired.length rel]; exact z
  have hl2 : (putK kvs k d).length ≤ sizeLine := by have := length_putK kvs k d; omega
  have q := rel.val k
  refine call_meetsIn PySem.F.slot_dict_setdefault dd.typeIs PySem.F.entry_dict_setdefault (PySem.F.args_dict_setdefault_3 _ _ _) (meetsH_dict_setdefault (tupleKind (mixKind X.prog X.w)) a b hd r) ⟨tupleKind_room_in1 hu, k, xs, key_of I.hok eb, dd, hz, fun p hp => ?_, fun hn h' dd' hs => ?_⟩
  · rw [hp] at q
    cases q0 : valV kvs k with
    | none => rw [q0] at q; exact (show False from q).elim
    | some v0 => rw [q0] at q; exact h1 v0 q0 _ _ (I.tok _) q
  · rw [hn] at q
    cases q0 : valV kvs k with
    | some v0 => rw [q0] at q; exact (show False from q).elim
    | none =>
      obtain ⟨qq, es, ep, hq, g2, g3, g4, _, g5⟩ := dd'
      refine h2 q0 _ _ (d_write (t' := s.toks + (tupleKind (mixKind X.prog X.w)).draws k) I (by rw [e]; exact True.intro) hs ⟨qq, hq⟩ ⟨hl2, hd, _, (rel.put k eb rd).keeps fun c ys ec => ?_, qq, es, ep, hq, g2, g3, g4, g5⟩) rd
      rw [upd_ne (ne_of ec e (fun z => nomatch z))]
      exact ec
namespace L2
open PySem PySem.Spec PyProof.Rows
/-- what d.setdefault(y, z) does -/
def SetD (H : Hp) (a : Addr) (y z : V) (Q : VK) : Prop :=
  (∃ (kvs : List (Key × V)) (k : Key), H a = some (.dK kvs) ∧ y = kV k ∧ kvs.length < sizeLine ∧ (∀ v, valV kvs k = some v → Q v H) ∧ (valV kvs k = none → Q z (upd H a (.dK (putK kvs k z))))) ∨
  ∃ (kvs : List (List Key × V)) (k : List Key) (b : Addr), H a = some (.dT kvs) ∧ y = .ref b ∧ H b = some (.tup (k.map kV)) ∧ kvs.length < sizeLine ∧ (∀ v, valV kvs k = some v → Q v H) ∧ (valV kvs k = none → Q z (upd H a (.dT (putK kvs k z))))
def tSetd2 (td ty tx : TE) : TE := fun σ H Q => td σ H fun x H1 => ∃ a, x = .ref a ∧ IsD H1 a ∧ ty σ H1 fun y H2 => tx σ H2 fun z H3 => SetD H3 a y z Q
theorem pe_setd2 {X : Cx} {o e f : Expr} {td ty tx : TE} {apos cpos : Pos} (hu : X.A.units + 1 < cLine) (ho : PE X o td) (he : PE X e ty) (hf : PE X f tx) (m : M2 X o "setdefault" apos e f cpos) : PE X (.Call (.Attribute o "setdefault" apos) [e, f] [] cpos) (tSetd2 td ty tx) := by
  refine ⟨fun pins s σ H Q I h => ?_⟩
  refine wpAny_Call_method m.base m.few m.line PySem.F.plainAttrs_dict PySem.F.slot_dict_setdefault PySem.F.type_dict_setdefault (thn (ho.run pins s σ H _ I h) fun u s1 ⟨x, H1, I1, rx, a, ex, d, q1⟩ => ?_)
  subst ex
  obtain rfl : u = Value.ref a := rx
  obtain ⟨t1, t2, _⟩ := isD_at I1 d
  refine ⟨t1, t2, ?_⟩
  rw [m.trees]
  refine Calls.callWith_builtin rfl (Calls.evalArgs_plain (Calls.spliced_cons (thn (he.run pins s1 σ H1 _ I1 q1) fun iv s2 ⟨y, H2, I2, ry, q2⟩ =>
    Calls.spliced_cons (thn (hf.run pins s2 σ H2 _ I2 q2) fun fv s3 ⟨z, H3, I3, rz, q3⟩ => Calls.spliced_nil ?_))))
  rcases q3 with ⟨kvs, k, ea, ey, hl, q4, q5⟩ | ⟨kvs, k, b, ea, ey, eb, hl, q4, q5⟩
  · subst ey
    exact d_setd I3 ea ry rz hl (fun v hv w' s4 I4 rw' => ⟨v, _, I4, rw', q4 v hv⟩) fun hn w' s4 I4 rw' => ⟨z, _, I4, rw', q5 hn⟩
  · subst ey
    cases (show iv = Value.ref b from ry)
    exact d_setdT hu I3 ea eb rz hl (fun v hv w' s4 I4 rw' => ⟨v, _, I4, rw', q4 v hv⟩) fun hn w' s4 I4 rw' => ⟨z, _, I4, rw', q5 hn⟩
end L2
namespace QL
open PySem L2
section
variable {X : Cx} {W : WX}
/-- a statement, an expression that is never reached -/
def wNever (_ : ED) (_ : SS) (_ : LS) : Prop := False
theorem qs_never {st : Stmt} : QS X W st wNever := ⟨fun pins s σ H D I h => by
  obtain ⟨_, _, _, _, _, _, h, _⟩ := h
  exact h.elim⟩
def wNeverE (_ : SS) (_ : LS) (_ : P → LS → Prop) (_ : EK) : Prop := False
theorem qe_never {e : Expr} : QE X W e wNeverE := ⟨fun pins s σ H Q I h => by
  obtain ⟨_, _, _, _, _, _, _, h, _⟩ := h
  exact h.elim⟩
/-! ### the keys of a dict that does not change any more -/
def kD : Key → D
  | .inl i => .int i
  | .inr x => .str x
theorem rd_kD {K : PySem.W.Frag} {p : Pt} (k : Key) : RD K p (kD k) (kV k) := by
  cases k with
  | inl i => exact .int i
  | inr x => exact .str x
theorem rds_kD {K : PySem.W.Frag} {p : Pt} : ∀ ks : List Key, RDs K p (ks.map kD) (ks.map kV)
  | [] => .nil
  | k :: ks => .cons (rd_kD k) (rds_kD ks)
def keysK (ks : List Key) : List D := ks.map kD
def keysT (ks : List (List Key)) : List D := ks.map fun k => .tup (k.map kD)
def kKeys (R : Items → LS → Prop) (x : P) (l : LS) : Prop := match x with
  | .d (.dk ks _) => R ⟨keysK ks, okAll⟩ l
  | .d (.dt ks _) => R ⟨keysT ks, okAll⟩ l
  | _ => False
def iKys (we : WE) (σ : SS) (l : LS) (R : Items → LS → Prop) (E : EK) : Prop := we σ l (kKeys R) E
theorem qi_keys {tg e : Expr} {we : WE} (h : QE X W e we) : QI X W tg e (iKys we) := PI.imp (pi_keys h) fun σ H R ⟨p, σd, l, Rd, Ed, hH, R0, hw, k, lk⟩ => by
  subst hH
  refine cE_ok R0 hw lk fun x l1 v p1 e1 R1 r1 q1 => ?_
  cases x with
  | d x =>
    cases x with
    | dk ks xs =>
      cases r1 with
      | @dk a ob _ _ vs f hd hl hr =>
        have hkl : (ks.zip vs).length = ks.length := by rw [List.length_zip, ← hr.len, ← hl]; simp
        refine ⟨a, ob, rfl, .inl ⟨_, hd, k ⟨keysK ks, okAll⟩ l1 _ p1 e1 R1 (fun p2 l2 e2 w2 c2 _ i => ?_) q1⟩⟩
        have h2 : p2.H a = some (.frz ob (.dK (ks.zip vs))) := e2.hf.keepF _ _ hd f
        refine ⟨fun hi => ⟨h2, by rw [hkl]; simpa [keysK] using hi⟩, fun hi => ⟨h2, by rw [hkl]; simpa [keysK] using hi⟩, fun y H' d hy hyl => ?_⟩
        obtain ⟨hH, kk, vv, hz, rfl⟩ := hyl
        refine ⟨p2, hH.symm, Ext.refl _, w2, c2, ?_⟩
        have h3 : ks[i]? = some kk := by
          have h4 := List.getElem?_zip_eq_some.mp hz
          exact h4.1
        unfold keysK at hy
        rw [List.getElem?_map, h3] at hy
        cases hy
        exact rd_kD kk
    | dt ks xs =>
      cases r1 with
      | @dt a ob _ _ vs f hd hl hr =>
        have hkl : (ks.zip vs).length = ks.length := by rw [List.length_zip, ← hr.len, ← hl]; simp
        refine ⟨a, ob, rfl, .inr ⟨_, hd, k ⟨keysT ks, okAll⟩ l1 _ p1 e1 R1 (fun p2 l2 e2 w2 c2 _ i => ?_) q1⟩⟩
        have h2 : p2.H a = some (.frz ob (.dT (ks.zip vs))) := e2.hf.keepF _ _ hd f
        refine ⟨fun hi => ⟨h2, by rw [hkl]; simpa [keysT] using hi⟩, fun hi => ⟨h2, by rw [hkl]; simpa [keysT] using hi⟩, fun y H' d hy hyl => ?_⟩
        obtain ⟨hH, kk, vv, q, hz, rfl, hq⟩ := hyl
        refine ⟨p2, hH.symm, Ext.refl _, w2, c2, ?_⟩
        have h3 : ks[i]? = some kk := by
          have h4 := List.getElem?_zip_eq_some.mp hz
          exact h4.1
        unfold keysT at hy
        rw [List.getElem?_map, h3] at hy
        cases hy
        exact RD.tup hq (rds_kD kk)
    | _ => exact q1.elim
  | _ => exact q1.elim
/-! ### dicts of lists that grow -/
def wNewTC (_ : SS) (l : LS) (Q : P → LS → Prop) (_ : EK) : Prop := Q (.loc l.length) (l ++ [.dtc []])
def wNewKC (_ : SS) (l : LS) (Q : P → LS → Prop) (_ : EK) : Prop := Q (.loc l.length) (l ++ [.dkc []])
theorem qe_newTC {pos : Pos} : QE X W (.Dict [] [] pos) wNewTC := PE.imp pe_dnewT fun σ H Q ⟨p, σd, l, Qd, Ed, hH, R, hw, k, lk⟩ => by
  subst hH
  refine fun a ha => k (.loc l.length) (l ++ [.dtc []]) (.ref a) (p.new a (.dT [])) (ext_new ha) (R.ext (ext_new ha) (wf_new R.wf ha) (Cells.new (c := .dtc []) R.wf R.ce ha (show CellOk X.K (p.new a (.dT [])) (.dtc []) a from ⟨fun z => R.wf.nF ha z, upd_same⟩))) ⟨a, ?_, rfl⟩ (show Qd (.loc l.length) (l ++ [.dtc []]) from hw)
  show (p.rho ++ [a])[l.length]? = some a
  rw [R.ce.1, List.getElem?_append_right (Nat.le_refl _)]
  simp
theorem qe_newKC {pos : Pos} : QE X W (.Dict [] [] pos) wNewKC := PE.imp pe_dnewK fun σ H Q ⟨p, σd, l, Qd, Ed, hH, R, hw, k, lk⟩ => by
  subst hH
  refine fun a ha => k (.loc l.length) (l ++ [.dkc []]) (.ref a) (p.new a (.dK [])) (ext_new ha) (R.ext (ext_new ha) (wf_new R.wf ha) (Cells.new (c := .dkc []) R.wf R.ce ha (show CellOk X.K (p.new a (.dK [])) (.dkc []) a from ⟨fun z => R.wf.nF ha z, upd_same⟩))) ⟨a, ?_, rfl⟩ (show Qd (.loc l.length) (l ++ [.dkc []]) from hw)
  show (p.rho ++ [a])[l.length]? = some a
  rw [R.ce.1, List.getElem?_append_right (Nat.le_refl _)]
  simp
/-- the place of a key's list -/
def adr {κ : Type} [DecidableEq κ] (kvs : List (κ × Addr)) (k : κ) : Option Addr := (kvs.find? fun q => decide (q.1 = k)).map (·.2)
theorem adr_val {κ : Type} [DecidableEq κ] (kvs : List (κ × Addr)) (k : κ) : valV (kvs.map fun q => (q.1, V.ref q.2)) k = (adr kvs k).map V.ref := by
  unfold valV adr
  rw [List.find?_map, Option.map_map, Option.map_map]
  rfl
theorem adr_put {κ : Type} [DecidableEq κ] {kvs : List (κ × Addr)} {k : κ} {b : Addr} (h : adr kvs k = none) : putK (kvs.map fun q => (q.1, V.ref q.2)) k (.ref b) = (kvs ++ [(k, b)]).map fun q => (q.1, V.ref q.2) := by
  unfold putK
  rw [if_neg]
  · simp
  · rw [valV_any, adr_val, h]
    decide
/-- the list at b as a cell -/
def ownAt (l : LS) (b : Addr) (Q : P → LS → Prop) : Prop := ∃ m xs, l[m]? = some (.own b xs) ∧ Q (.loc m) l
def kSd (x y : P) (l : LS) (Q : P → LS → Prop) : Prop := match x, y with
  | .loc n, .d y => match l[n]? with
    | some (.dtc kvs) => kvs.length < sizeLine ∧ ∃ k, keyT y = some k ∧ match adr kvs k with
      | some b => ownAt l b Q
      | none => ∀ b, Q (.loc l.length) (l.set n (.dtc (kvs ++ [(k, b)])) ++ [.own b []])
    | some (.dkc kvs) => kvs.length < sizeLine ∧ ∃ k, keyD y = some k ∧ match adr kvs k with
      | some b => ownAt l b Q
      | none => ∀ b, Q (.loc l.length) (l.set n (.dkc (kvs ++ [(k, b)])) ++ [.own b []])
    | _ => False
  | _, _ => False
def isC (l : LS) (x : P) : Prop := match x with
  | .loc n => match l[n]? with
    | some (.dtc _) => True
    | some (.dkc _) => True
    | _ => False
  | _ => False
def kSdL1 (wi : WE) (σ : SS) (Q : P → LS → Prop) (E : EK) (x : P) (l : LS) : Prop := isC l x ∧ wi σ l (fun y l => kSd x y l Q) E
def wSdL (wo wi : WE) (σ : SS) (l : LS) (Q : P → LS → Prop) (E : EK) : Prop := wo σ l (kSdL1 wi σ Q E) E
theorem isC_ok {K : PySem.W.Frag} {p : Pt} {l : LS} {x : P} {v : V} (ce : Cells K p l) (r : RP K p x v) (h : isC l x) : ∃ n a, x = .loc n ∧ v = .ref a ∧ p.rho[n]? = some a ∧ IsD p.H a ∧ ((∃ kvs, l[n]? = some (.dtc kvs) ∧ ¬ p.F a ∧ p.H a = some (.dT (kvs.map fun q => (q.1, V.ref q.2)))) ∨ ∃ kvs, l[n]? = some (.dkc kvs) ∧ ¬ p.F a ∧ p.H a = some (.dK (kvs.map fun q => (q.1, V.ref q.2)))) := by
  unfold isC at h
  split at h
  · rename_i n
    obtain ⟨a, h1, rfl⟩ := r
    split at h
    · rename_i kvs e
      obtain ⟨b, h2, nf, h3⟩ := ce.2 _ _ e
      rw [h1] at h2; cases h2
      exact ⟨n, a, rfl, rfl, h1, .inr ⟨_, .inl h3⟩, .inl ⟨kvs, e, nf, h3⟩⟩
    · rename_i kvs e
      obtain ⟨b, h2, nf, h3⟩ := ce.2 _ _ e
      rw [h1] at h2; cases h2
      exact ⟨n, a, rfl, rfl, h1, .inl ⟨_, .inl h3⟩, .inr ⟨kvs, e, nf, h3⟩⟩
    · exact h.elim
  · exact h.elim
theorem own_ref {K : PySem.W.Frag} {p : Pt} {l : LS} {m : Nat} {b : Addr} {xs : List D} (ce : Cells K p l) (h : l[m]? = some (.own b xs)) : RP K p (.loc m) (.ref b) := by
  obtain ⟨c, h1, rfl, _⟩ := ce.2 _ _ h
  exact ⟨c, h1, rfl⟩
/-- a written cell, then a new own list -/
theorem put_new {K : PySem.W.Frag} {p : Pt} {l : LS} {n : Nat} {a b : Addr} {o o' : HO} {c : Cell} (w : WF p) (ce : Cells K p l) (h1 : p.rho[n]? = some a) (nf : ¬ p.F a) (ho : p.H a = some o) (ht : ∀ vs, o ≠ .tup vs) (hb : p.H b = none)
    (hc : ∀ q : Pt, q.F = p.F → q.H a = some o' → CellOk K q c a) : ∃ q : Pt, q.H = upd (upd p.H b (.lst [])) a o' ∧ Ext p q ∧ WF q ∧ Cells K q (l.set n c ++ [.own b []]) ∧ RP K q (.loc l.length) (.ref b) := by
  have hr := List.mem_of_getElem? h1
  have nb : a ≠ b := fun z => by rw [z, hb] at ho; cases ho
  have e1 : Ext p (p.new b (.lst [])) := ext_new hb
  have w1 : WF (p.new b (.lst [])) := wf_new w hb
  have c1 : Cells K (p.new b (.lst [])) (l ++ [.own b []]) := Cells.new w ce hb (show CellOk K (p.new b (.lst [])) (.own b []) b from ⟨rfl, fun z => w.nF hb z, [], upd_same, .nil⟩)
  have hl : n < l.length := by rw [ce.1]; exact (List.getElem?_eq_some_iff.mp h1).1
  have h1' : (p.new b (.lst [])).rho[n]? = some a := by
    show (p.rho ++ [b])[n]? = some a
    rw [List.getElem?_append_left (by rw [← ce.1]; exact hl)]
    exact h1
  have ho' : (p.new b (.lst [])).H a = some o := by
    show upd p.H b (.lst []) a = some o
    rw [upd_ne nb]; exact ho
  have ht' : ∀ vs, (p.new b (.lst [])).H a ≠ some (.tup vs) := fun vs z => by rw [ho'] at z; injection z with z; exact ht _ z
  have hr' : a ∈ (p.new b (.lst [])).rho := List.mem_of_getElem? h1'
  have e2 : Ext (p.new b (.lst [])) ((p.new b (.lst [])).put a o') := ext_put hr' nf ht'
  have c2 := Cells.put (o := o') (c := c) w1 c1 h1' nf ht' (hc _ rfl upd_same)
  refine ⟨(p.new b (.lst [])).put a o', rfl, e1.trans e2, wf_put w1, ?_, ?_⟩
  · rw [List.set_append_left _ _ hl] at c2
    exact c2
  · refine ⟨b, ?_, rfl⟩
    show (p.rho ++ [b])[l.length]? = some b
    rw [ce.1, List.getElem?_append_right (Nat.le_refl _)]
    simp
theorem qe_sdL {o e : Expr} {wo we : WE} {apos cpos lpos : Pos} (hu : X.A.units + 1 < cLine) (ho : QE X W o wo) (he : QE X W e we) (m : M2 X o "setdefault" apos e (.List [] lpos) cpos) : QE X W (.Call (.Attribute o "setdefault" apos) [e, .List [] lpos] [] cpos) (wSdL wo we) :=
  PE.imp (pe_setd2 hu ho he (pe_lst pa_nil) m) fun σ H Q ⟨p, σd, l, Qd, Ed, hH, R, hw, k, lk⟩ => by
    subst hH
    refine cE_ok R hw lk fun x l1 vx p1 e1 R1 r1 ⟨hd, q1⟩ => ?_
    obtain ⟨n, a, rfl, rfl, _, hD, _⟩ := isC_ok R1.ce r1 hd
    refine ⟨a, rfl, hD, cE_ok R1 q1 (lk.mono e1) fun y l2 vy p2 e2 R2 r2 q2 => ?_⟩
    refine ⟨Nat.zero_le _, fun b hb => ?_⟩
    have E2 := e1.trans e2
    unfold kSd at q2
    split at q2
    · rename_i n2 y2 en
      cases en
      have r1' := r1.mono e2
      obtain ⟨a', g1, ea⟩ := r1'
      cases ea
      split at q2
      · rename_i kvs ek
        obtain ⟨hz, kk, hk, q2⟩ := q2
        obtain ⟨c, g2, nf, g3⟩ := R2.ce.2 _ _ ek
        rw [g1] at g2; cases g2
        obtain ⟨bk, rfl, hbk⟩ := keyT_ok r2 hk
        have nab : a ≠ b := fun z => by rw [z, hb] at g3; cases g3
        refine .inr ⟨_, kk, bk, by rw [upd_ne nab]; exact g3, rfl, by rw [upd_ne (ne_of_none hbk hb)]; exact hbk, by rw [List.length_map]; exact hz, fun v hv => ?_, fun hv => ?_⟩
        · rw [adr_val] at hv
          obtain ⟨b0, hb0, rfl⟩ := Option.map_eq_some_iff.mp hv
          rw [hb0] at q2
          obtain ⟨mm, xs, hm, q⟩ := q2
          have e3 : Ext p2 (p2.hid b (.lst [])) := hid_ext hb
          exact k (.loc mm) l2 (.ref b0) (p2.hid b (.lst [])) (E2.trans e3) (R2.ext e3 (hid_wf R2.wf) (hid_cells R2.wf R2.ce hb)) ((own_ref R2.ce hm).mono e3) q
        · rw [adr_val] at hv
          have hn : adr kvs kk = none := by
            cases h0 : adr kvs kk with
            | none => rfl
            | some _ => rw [h0] at hv; cases hv
          rw [hn] at q2
          obtain ⟨p3, hH3, e3, w3, c3, r3⟩ := put_new (c := .dtc (kvs ++ [(kk, b)])) (o' := .dT ((kvs ++ [(kk, b)]).map fun q => (q.1, V.ref q.2))) R2.wf R2.ce g1 nf g3 (fun _ z => nomatch z) hb (fun q hq hh => ⟨by rw [hq]; exact nf, hh⟩)
          rw [adr_put hn, ← hH3]
          exact k (.loc l2.length) _ (.ref b) p3 (E2.trans e3) (R2.ext e3 w3 c3) r3 (q2 b)
      · rename_i kvs ek
        obtain ⟨hz, kk, hk, q2⟩ := q2
        obtain ⟨c, g2, nf, g3⟩ := R2.ce.2 _ _ ek
        rw [g1] at g2; cases g2
        have ey := keyD_ok r2 hk
        have nab : a ≠ b := fun z => by rw [z, hb] at g3; cases g3
        refine .inl ⟨_, kk, by rw [upd_ne nab]; exact g3, ey, by rw [List.length_map]; exact hz, fun v hv => ?_, fun hv => ?_⟩
        · rw [adr_val] at hv
          obtain ⟨b0, hb0, rfl⟩ := Option.map_eq_some_iff.mp hv
          rw [hb0] at q2
          obtain ⟨mm, xs, hm, q⟩ := q2
          have e3 : Ext p2 (p2.hid b (.lst [])) := hid_ext hb
          exact k (.loc mm) l2 (.ref b0) (p2.hid b (.lst [])) (E2.trans e3) (R2.ext e3 (hid_wf R2.wf) (hid_cells R2.wf R2.ce hb)) ((own_ref R2.ce hm).mono e3) q
        · rw [adr_val] at hv
          have hn : adr kvs kk = none := by
            cases h0 : adr kvs kk with
            | none => rfl
            | some _ => rw [h0] at hv; cases hv
          rw [hn] at q2
          obtain ⟨p3, hH3, e3, w3, c3, r3⟩ := put_new (c := .dkc (kvs ++ [(kk, b)])) (o' := .dK ((kvs ++ [(kk, b)]).map fun q => (q.1, V.ref q.2))) R2.wf R2.ce g1 nf g3 (fun _ z => nomatch z) hb (fun q hq hh => ⟨by rw [hq]; exact nf, hh⟩)
          rw [adr_put hn, ← hH3]
          exact k (.loc l2.length) _ (.ref b) p3 (E2.trans e3) (R2.ext e3 w3 c3) r3 (q2 b)
      · exact q2.elim
    · exact q2.elim
end
end QL
set_option Elab.async false
set_option linter.all false
set_option maxRecDepth 100000
set_option maxHeartbeats 4000000
/-! QD5: dicts of lists that grow are read and frozen; dict(d). -/
namespace QL
open PySem L2
section
variable {X : Cx} {W : WX}
/-! ### d.get(k, []) -/
def kGl (x y : P) (l : LS) (Q : P → LS → Prop) : Prop := match x, y with
  | .loc n, .d y => match l[n]? with
    | some (.dtc kvs) => ∃ k, keyT y = some k ∧ match adr kvs k with
      | some b => ownAt l b Q
      | none => Q (.d (.lst [])) l
    | some (.dkc kvs) => ∃ k, keyD y = some k ∧ match adr kvs k with
      | some b => ownAt l b Q
      | none => Q (.d (.lst [])) l
    | _ => False
  | _, _ => False
def kGlL1 (wi : WE) (σ : SS) (Q : P → LS → Prop) (E : EK) (x : P) (l : LS) : Prop := isC l x ∧ wi σ l (fun y l => kGl x y l Q) E
def wGlL (wo wi : WE) (σ : SS) (l : LS) (Q : P → LS → Prop) (E : EK) : Prop := wo σ l (kGlL1 wi σ Q E) E
theorem qe_getL {o e : Expr} {wo we : WE} {apos cpos lpos : Pos} (hu : X.A.units + 1 < cLine) (ho : QE X W o wo) (he : QE X W e we) (m : M2 X o "get" apos e (.List [] lpos) cpos) : QE X W (.Call (.Attribute o "get" apos) [e, .List [] lpos] [] cpos) (wGlL wo we) :=
  PE.imp (pe_dget2 hu ho he (pe_lst pa_nil) m) fun σ H Q ⟨p, σd, l, Qd, Ed, hH, R, hw, k, lk⟩ => by
    subst hH
    refine cE_ok R hw lk fun x l1 vx p1 e1 R1 r1 ⟨hd, q1⟩ => ?_
    obtain ⟨n, a, rfl, rfl, _, hD, _⟩ := isC_ok R1.ce r1 hd
    refine ⟨a, rfl, hD, cE_ok R1 q1 (lk.mono e1) fun y l2 vy p2 e2 R2 r2 q2 => ?_⟩
    refine ⟨Nat.zero_le _, fun b hb => ?_⟩
    have E2 := e1.trans e2
    unfold kGl at q2
    split at q2
    · rename_i n2 y2 en
      cases en
      have r1' := r1.mono e2
      obtain ⟨a', g1, ea⟩ := r1'
      cases ea
      have e3 : Ext p2 (p2.hid b (.lst [])) := hid_ext hb
      have e4 : Ext p2 (p2.frz b (.lst [])) := ext_frz hb
      have R3 := R2.ext e3 (hid_wf R2.wf) (hid_cells R2.wf R2.ce hb)
      have R4 := R2.ext e4 (wf_frz R2.wf) (Cells.frz R2.wf R2.ce hb)
      have fin : ∀ o : Option Addr, (match o with | some b => ownAt l2 b Qd | none => Qd (.d (.lst [])) l2) → Q ((o.map V.ref).getD (.ref b)) (upd p2.H b (.lst [])) := fun o q => by
        cases o with
        | some b0 =>
          obtain ⟨mm, xs, hm, q⟩ := q
          exact k (.loc mm) l2 (.ref b0) (p2.hid b (.lst [])) (E2.trans e3) R3 ((own_ref R2.ce hm).mono e3) q
        | none => exact k (.d (.lst [])) l2 (.ref b) (p2.frz b (.lst [])) (E2.trans e4) R4 (show RP X.K (p2.frz b (.lst [])) (.d (.lst [])) (.ref b) from RD.lst ⟨Or.inr rfl, upd_same⟩ .nil) q
      split at q2
      · rename_i kvs ek
        obtain ⟨kk, hk, q2⟩ := q2
        obtain ⟨c, g2, nf, g3⟩ := R2.ce.2 _ _ ek
        rw [g1] at g2; cases g2
        obtain ⟨bk, rfl, hbk⟩ := keyT_ok r2 hk
        have nab : a ≠ b := fun z => by rw [z, hb] at g3; cases g3
        refine ⟨_, .inr ⟨_, kk, bk, .inl (by rw [upd_ne nab]; exact g3), rfl, by rw [upd_ne (ne_of_none hbk hb)]; exact hbk, rfl⟩, ?_⟩
        rw [adr_val]
        exact fin _ q2
      · rename_i kvs ek
        obtain ⟨kk, hk, q2⟩ := q2
        obtain ⟨c, g2, nf, g3⟩ := R2.ce.2 _ _ ek
        rw [g1] at g2; cases g2
        have ey := keyD_ok r2 hk
        have nab : a ≠ b := fun z => by rw [z, hb] at g3; cases g3
        refine ⟨_, .inl ⟨_, kk, .inl (by rw [upd_ne nab]; exact g3), ey, rfl⟩, ?_⟩
        rw [adr_val]
        exact fin _ q2
      · exact q2.elim
    · exact q2.elim
/-! ### such a dict is frozen with its lists -/
def Owns : LS → List Addr → List (List D) → LS → Prop
  | l, [], [], l' => l' = l
  | l, b :: bs, xs :: xss, l' => ∃ m, l[m]? = some (.own b xs) ∧ Owns (l.set m (.frz xs)) bs xss l'
  | _, _, _, _ => False
def kIceC (Q : P → LS → Prop) (x : P) (l : LS) : Prop := match x with
  | .loc n => match l[n]? with
    | some (.dtc kvs) => ∃ xss l1, Owns l (kvs.map (·.2)) xss l1 ∧ Q (.d (.dt (kvs.map (·.1)) (xss.map .lst))) (l1.set n (.fz (.dt (kvs.map (·.1)) (xss.map .lst))))
    | some (.dkc kvs) => ∃ xss l1, Owns l (kvs.map (·.2)) xss l1 ∧ Q (.d (.dk (kvs.map (·.1)) (xss.map .lst))) (l1.set n (.fz (.dk (kvs.map (·.1)) (xss.map .lst))))
    | _ => False
  | _ => False
def wIceC (we : WE) (σ : SS) (l : LS) (Q : P → LS → Prop) (E : EK) : Prop := we σ l (kIceC Q) E
theorem owns_ok {K : PySem.W.Frag} : ∀ (bs : List Addr) (xss : List (List D)) {p : Pt} {l l' : LS}, WF p → Cells K p l → Owns l bs xss l' → ∃ q : Pt, q.H = p.H ∧ q.rho = p.rho ∧ Ext p q ∧ WF q ∧ Cells K q l' ∧ (∀ b, q.F b → p.F b ∨ b ∈ bs) ∧ RDs K q (xss.map .lst) (bs.map V.ref)
  | [], [], p, l, l', w, ce, h => by
    cases h
    exact ⟨p, rfl, rfl, Ext.refl _, w, ce, fun b h => .inl h, .nil⟩
  | [], _ :: _, _, _, _, _, _, h => h.elim
  | _ :: _, [], _, _, _, _, _, h => h.elim
  | b :: bs, xs :: xss, p, l, l', w, ce, ⟨m, hm, h⟩ => by
    obtain ⟨c, h1, rfl, nf, vs, h3, h4⟩ := ce.2 _ _ hm
    have hr := List.mem_of_getElem? h1
    have la : LstAt (p.ice c) c vs := ⟨.inr rfl, h3⟩
    have c1 := Cells.iceL w ce h1 hm la (h4.mono (ext_ice hr).hf)
    obtain ⟨q, hH, hrh, e, wq, cq, hF, rq⟩ := owns_ok bs xss (wf_ice w hr) c1 h
    refine ⟨q, hH, hrh, (ext_ice hr).trans e, wq, cq, fun b' hb => ?_, .cons (RD.lst (la.mono e.hf) (h4.mono ((ext_ice hr).trans e).hf)) rq⟩
    rcases hF b' hb with z | z
    · rcases z with z | z
      · exact .inl z
      · exact .inr (by rw [z]; exact List.mem_cons_self)
    · exact .inr (List.mem_cons_of_mem _ z)
theorem owns_other : ∀ (bs : List Addr) (xss : List (List D)) {l l' : LS} {n : Nat} {c : Cell}, Owns l bs xss l' → l[n]? = some c → (∀ b xs, c ≠ .own b xs) → l'[n]? = some c
  | [], [], l, l', n, c, h, hc, _ => by cases h; exact hc
  | [], _ :: _, _, _, _, _, h, _, _ => h.elim
  | _ :: _, [], _, _, _, _, h, _, _ => h.elim
  | b :: bs, xs :: xss, l, l', n, c, ⟨m, hm, h⟩, hc, hn => by
    refine owns_other bs xss h ?_ hn
    rw [List.getElem?_set_ne fun z => by subst z; rw [hm] at hc; injection hc with hc; exact hn _ _ hc.symm]
    exact hc
theorem owns_len : ∀ (bs : List Addr) (xss : List (List D)) {l l' : LS}, Owns l bs xss l' → bs.length = xss.length
  | [], [], _, _, _ => rfl
  | [], _ :: _, _, _, h => h.elim
  | _ :: _, [], _, _, h => h.elim
  | b :: bs, xs :: xss, _, _, ⟨_, _, h⟩ => by simp [owns_len bs xss h]
theorem owns_mem {K : PySem.W.Frag} {p : Pt} : ∀ (bs : List Addr) (xss : List (List D)) {l l' : LS}, Cells K p l → Owns l bs xss l' → ∀ b ∈ bs, ∃ vs, p.H b = some (.lst vs)
  | [], _, _, _, _, _, b, hb => by simp at hb
  | _ :: _, [], _, _, _, h, _, _ => h.elim
  | b0 :: bs, xs :: xss, l, l', ce, ⟨m, hm, h⟩, b, hb => by
    obtain ⟨c, h1, rfl, nf, vs, h3, h4⟩ := ce.2 _ _ hm
    rcases List.mem_cons.mp hb with rfl | hb
    · exact ⟨vs, h3⟩
    · have : ∀ (bs : List Addr) (xss : List (List D)) {l l' : LS}, (∀ (i : Nat) (b : Addr) (xs : List D), l[i]? = some (Cell.own b xs) → ∃ vs, p.H b = some (.lst vs)) → Owns l bs xss l' → ∀ b ∈ bs, ∃ vs, p.H b = some (.lst vs) := by
        intro bs
        induction bs with
        | nil => intro _ _ _ _ _ b hb; simp at hb
        | cons b1 bs ih =>
          intro xss l l' hl ho b hb
          cases xss with
          | nil => exact ho.elim
          | cons xs xss =>
            obtain ⟨m, hm, ho⟩ := ho
            rcases List.mem_cons.mp hb with rfl | hb
            · exact hl _ _ _ hm
            · refine ih xss (fun i b xs hi => ?_) ho b hb
              by_cases z : m = i
              · subst z
                by_cases hlt : m < l.length
                · rw [List.getElem?_set_self hlt] at hi; cases hi
                · rw [List.getElem?_eq_none (by simpa using hlt)] at hi; cases hi
              · rw [List.getElem?_set_ne z] at hi
                exact hl i b xs hi
      refine this bs xss (fun i b xs hi => ?_) h b hb
      by_cases z : m = i
      · subst z
        by_cases hlt : m < l.length
        · rw [List.getElem?_set_self hlt] at hi; cases hi
        · rw [List.getElem?_eq_none (by simpa using hlt)] at hi; cases hi
      · rw [List.getElem?_set_ne z] at hi
        obtain ⟨_, _, rfl, _, vs, g, _⟩ := ce.2 _ _ hi
        exact ⟨vs, g⟩
theorem zip_refs {κ : Type} (kvs : List (κ × Addr)) : kvs.map (fun q => (q.1, V.ref q.2)) = (kvs.map (·.1)).zip ((kvs.map (·.2)).map V.ref) := by
  induction kvs with
  | nil => rfl
  | cons q r ih => simp [ih]
theorem qe_iceC {e : Expr} {we : WE} (h : QE X W e we) : QE X W e (wIceC we) := PE.imp (pe_iceP h) fun σ H Q ⟨p, σd, l, Qd, Ed, hH, R, hw, k, lk⟩ => by
  subst hH
  refine cE_ok R hw lk fun x l1 v p1 e1 R1 r1 q1 => ?_
  cases x with
  | d x => exact q1.elim
  | exc _ _ _ _ => exact q1.elim
  | loc n =>
    obtain ⟨a, h1, rfl⟩ := r1
    unfold kIceC at q1
    dsimp only at q1
    split at q1
    · rename_i kvs e
      obtain ⟨b, h2, nf, h3⟩ := R1.ce.2 n _ e
      rw [h1] at h2
      cases h2
      obtain ⟨xss, l2, ho, q⟩ := q1
      obtain ⟨q0, hH, hrh, e2, w2, c2, hF, rq⟩ := owns_ok _ _ R1.wf R1.ce ho
      have hm := owns_mem _ _ R1.ce ho
      have h3' : q0.H a = some (.dT (kvs.map fun q => (q.1, V.ref q.2))) := by rw [hH]; exact h3
      have nf' : ¬ q0.F a := fun z => by
        rcases hF a z with z | z
        · exact nf z
        · obtain ⟨vs, g⟩ := hm a z
          rw [h3] at g; cases g
      have ht : ∀ vs, q0.H a ≠ some (.tup vs) := fun _ z => by rw [h3'] at z; cases z
      have h1' : q0.rho[n]? = some a := by rw [hrh]; exact h1
      have hr := List.mem_of_getElem? h1'
      have e' := owns_other _ _ ho e (fun _ _ z => nomatch z)
      refine .inr ⟨a, _, rfl, h3, True.intro, fun od => ?_⟩
      rw [← hH]
      have rx : RD X.K (q0.lck a (.frz od (.dT (kvs.map fun q => (q.1, V.ref q.2))))) (.dt (kvs.map (·.1)) (xss.map .lst)) (.ref a) := RD.dt (ob := od) (vs := (kvs.map (·.2)).map V.ref) (.inr rfl) (by show upd _ _ _ _ = _; rw [upd_same, zip_refs]) (by rw [List.length_map, List.length_map, ← owns_len _ _ ho, List.length_map]) (rq.mono (ext_lck hr nf' ht).hf)
      exact k _ _ _ (q0.lck a _) (e1.trans (e2.trans (ext_lck hr nf' ht))) (R1.ext (e2.trans (ext_lck hr nf' ht)) (wf_lck w2) (Cells.lck (c := .fz _) w2 c2 h1' e' nf' ht (show CellOk X.K _ (.fz _) a from rx))) (show RP X.K _ (.d _) _ from rx) q
    · rename_i kvs e
      obtain ⟨b, h2, nf, h3⟩ := R1.ce.2 n _ e
      rw [h1] at h2
      cases h2
      obtain ⟨xss, l2, ho, q⟩ := q1
      obtain ⟨q0, hH, hrh, e2, w2, c2, hF, rq⟩ := owns_ok _ _ R1.wf R1.ce ho
      have hm := owns_mem _ _ R1.ce ho
      have h3' : q0.H a = some (.dK (kvs.map fun q => (q.1, V.ref q.2))) := by rw [hH]; exact h3
      have nf' : ¬ q0.F a := fun z => by
        rcases hF a z with z | z
        · exact nf z
        · obtain ⟨vs, g⟩ := hm a z
          rw [h3] at g; cases g
      have ht : ∀ vs, q0.H a ≠ some (.tup vs) := fun _ z => by rw [h3'] at z; cases z
      have h1' : q0.rho[n]? = some a := by rw [hrh]; exact h1
      have hr := List.mem_of_getElem? h1'
      have e' := owns_other _ _ ho e (fun _ _ z => nomatch z)
      refine .inr ⟨a, _, rfl, h3, True.intro, fun od => ?_⟩
      rw [← hH]
      have rx : RD X.K (q0.lck a (.frz od (.dK (kvs.map fun q => (q.1, V.ref q.2))))) (.dk (kvs.map (·.1)) (xss.map .lst)) (.ref a) := RD.dk (ob := od) (vs := (kvs.map (·.2)).map V.ref) (.inr rfl) (by show upd _ _ _ _ = _; rw [upd_same, zip_refs]) (by rw [List.length_map, List.length_map, ← owns_len _ _ ho, List.length_map]) (rq.mono (ext_lck hr nf' ht).hf)
      exact k _ _ _ (q0.lck a _) (e1.trans (e2.trans (ext_lck hr nf' ht))) (R1.ext (e2.trans (ext_lck hr nf' ht)) (wf_lck w2) (Cells.lck (c := .fz _) w2 c2 h1' e' nf' ht (show CellOk X.K _ (.fz _) a from rx))) (show RP X.K _ (.d _) _ from rx) q
    · exact q1.elim
/-! ### dict(d): a new dict, keys ints or texts -/
def bDict (xs : List P) (l : LS) (Q : P → LS → Prop) : Prop := match xs with
  | [x] => match dkOf l x with
    | some kvs => Q (.loc l.length) (l ++ [.dk kvs])
    | none => False
  | _ => False
theorem ref_dict {K : PySem.W.Frag} : RefCall K (fun xs H Q => ∃ (a : Addr) (kvs : List (Key × V)), xs = [.ref a] ∧ Rd H a (.dK kvs) ∧ ∀ p, H p = none → Q (.ref p) (upd H p (.dK kvs))) bDict := fun p l xs vs Qd Q w ce rx h k => by
  unfold bDict at h
  split at h
  · obtain ⟨v, rfl, r⟩ := rx.one
    split at h
    · rename_i kvs hy
      obtain ⟨a, us, rfl, h1, h2⟩ := dkOf_ok ce r hy
      refine ⟨a, _, rfl, h1, fun b hb => ?_⟩
      exact k (.loc l.length) _ (.ref b) (p.new b (.dK (zipV kvs us))) (ext_new hb) (wf_new w hb) (Cells.new w ce hb (show CellOk K (p.new b (.dK (zipV kvs us))) (.dk kvs) b from ⟨fun z => w.nF hb z, us, upd_same, h2.mono (ext_new hb).hf⟩)) ⟨b, by
        show (p.rho ++ [b])[l.length]? = some b
        rw [ce.1, List.getElem?_append_right (Nat.le_refl _)]
        simp, rfl⟩ h
    · exact h.elim
  · exact h.elim
end
end QL
set_option Elab.async false
set_option linter.all false
set_option maxRecDepth 100000
set_option maxHeartbeats 4000000
/-! QO1: instances of own classes: fields read and stored, a new one; defs with defaults; methods. -/
namespace L2
open PySem PySem.Spec PyProof.Rows
section
variable {X : Cx} {CX : CXT} {k : Nat} {f C : Addr} {fd : FuncData} {ps : List Str} {sp : Sp} {dvs : List V} {ds : List Value} {E : St → XK} {x : Str} {p pos : Pos} {e : Expr} {es : List Expr} {t : TA}
def tMakeS (C : Addr) (sp : Sp) (E : St → XK) (t : TA) : TE := fun σ H Q => t σ H fun vs H1 => ∀ x dx, H1 x = none → H1 dx = none → dx ≠ x →
  sp (.ref x :: vs) (upd (upd H1 dx (.own x)) x (.ins C dx [])) (fun v H2 => v = .non ∧ Q (.ref x) H2) (E σ)
theorem run_makeS {pins : List (Addr × Obj)} {σ : St} {H : Hp} {s : Shared} {Q : VK} {us : List Value} {vs : List V} (M : Mk X.K C f) (F : FnOk X.prog X.w X.K X.mg X.base CX k f fd ps sp) (hr : Room (k + 1) X.A) (hb : Binds X.K fd ps [])
    (hx : PassesAt CX X σ (E σ)) (I : Inv X pins σ H s) (r : Vals vs us)
    (h : ∀ x dx, H x = none → H dx = none → dx ≠ x → sp (.ref x :: vs) (upd (upd H dx (.own x)) x (.ins C dx [])) (fun v H2 => v = .non ∧ Q (.ref x) H2) (E σ)) :
    wpAny (model X.prog X.w) X.A (call (.ref C) us) (EP X pins σ Q) X.xe s := by
  have hq := h (s.heap.objs.size + 1) s.heap.objs.size (I.hok.fresh (Nat.le_succ _)) (I.hok.fresh (Nat.le_refl _)) (Nat.ne_of_lt (Nat.lt_succ_self _))
  have I2 := Inv.made (C := C) I
  have r2 : Vals (V.ref (s.heap.objs.size + 1) :: vs) (Value.ref (s.heap.objs.size + 1) :: us) := .cons rfl r
  have hl : (Value.ref (s.heap.objs.size + 1) :: us ++ []).length = ps.length := by
    have e := r2.length
    rw [F.len _ _ _ _ hq] at e
    rw [List.append_nil]
    exact e.symm
  have hb2 := hb _ (Value.ref (s.heap.objs.size + 1) :: us) I2.kIn hl
  rw [List.append_nil] at hb2
  refine wpAny_call (make_map (f := f) I.kIn M.makes M.init (beq_iff_eq.mp M.fn) (codeAny_mono (F.run _ X.stack _ _ ⟨Value.ref (s.heap.objs.size + 1) :: us, []⟩ (Value.ref (s.heap.objs.size + 1) :: us) _ _ (E σ) (hr.make C us [])
    (I2.env0.make C us []) hb2 r2 hq) fun r s' hq' => ?_))
  cases r with
  | error e => exact hx pins _ _ e s' I2 hq'
  | ok fl =>
    cases fl with
    | ret u =>
      obtain ⟨v, H', I3, rv, ev, q3⟩ := I2.after hq'
      subst ev
      exact ⟨rv, ⟨V.ref (s.heap.objs.size + 1), H', I3, rfl, q3⟩⟩
    | next => exact False.elim hq'
    | brk => exact False.elim hq'
    | cont => exact False.elim hq'
theorem pe_makeS (M : Mk X.K C f) (F : FnOk X.prog X.w X.K X.mg X.base CX k f fd ps sp) (hr : Room (k + 1) X.A) (hg : Gl X x) (hm : X.mg x = some (.ref C)) (hb : Binds X.K fd ps []) (hx : ∀ σ, PassesAt CX X σ (E σ))
    (ha : PA X (e :: es) t) (hdb : (x == ("__debug__" : Str)) = false := by decide) (he : starEach (e :: es) X.env = (false, eval e X.env) :: starEach es X.env := by rfl) (hpl : (backTo pos (starEach es X.env)).any (·.1) = false := by rfl) :
    PE X (.Call (.Name x p) (e :: es) [] pos) (tMakeS C sp E t) := by
  refine ⟨fun pins s σ H Q I h => ?_⟩
  refine wpAny_Call_Name_kw (ld_glob I hg hm ?_ hdb)
  refine PySem.W.callWith_K (h₀ := X.base) I.ok.mod.kin M.kp (thn (ha.run pos pins s σ H _ I h) fun us s1 ⟨vs, H1, I1, r, q⟩ => ⟨I1.kIn, ?_⟩) he hpl
  exact run_makeS M F hr hb (hx σ) I1 r q
/-- a target o.f -/
def gAtt (K : PySem.W.Frag) (to : TE) (f : Str) : TG := fun v σ H Q => to σ H fun x H1 => ∃ a C dx fs, x = .ref a ∧ H1 a = some (.ins C dx fs) ∧ Cls K C ∧ NoAttr K C f ∧ fs.length < 1000 ∧ Q σ (upd H1 a (.ins C dx (putF f v fs)))
theorem pg_att {o : Expr} {to : TE} {f : Str} (ho : PE X o to) : PG X (.Attribute o f pos) (gAtt X.K to f) := by
  refine ⟨fun pins s σ H v u Q I r h => ?_⟩
  rw [PySem.assign_Attribute]
  refine wpAny_bind (wpAny_holding (thn (ho.run pins s σ H _ I h) fun ov s1 ⟨x, H1, I1, r1, a, C, dx, fs, ex, ea, c, n, l, q⟩ => ?_))
  subst ex
  obtain rfl : ov = Value.ref a := r1
  refine wpAny_bind (wpAny_standAt (wpAny_bind (wpAny_holding (setattr_ok I1 ea c n l r fun s3 I3 => ?_))))
  exact wpAny_release ⟨σ, _, I3, q⟩
end
end L2
namespace QL
open PySem L2
section
variable {X : Cx} {W : WX} {o e : Expr} {es : List Expr} {wo we : WE} {ws : WA} {pos q : Pos} {x f : Str}
/-- what of the text a class with the name x must have; its fields -/
structure ClsQ (K : PySem.W.Frag) (x : Str) (ns : List Str) : Prop where
  cls : Cls K (clsA K x)
  no : ∀ f ∈ ns, NoAttr K (clsA K x) f
/-- e.f, e an instance that does not change any more -/
def kFld (x f : Str) (K : PySem.W.Frag) (Q : P → LS → Prop) (v : P) (l : LS) : Prop := match v with
  | .d (.obj C ns xs) => C = clsA K x ∧ ∃ y, (ns.zip xs).lookup f = some y ∧ Q (.d y) l
  | _ => False
def wFld (K : PySem.W.Frag) (x f : Str) (we : WE) (σ : SS) (l : LS) (Q : P → LS → Prop) (E : EK) : Prop := we σ l (kFld x f K Q) E
theorem qe_fld {ns : List Str} (c : ClsQ X.K x ns) (hf : f ∈ ns) (he : QE X W e we) (hb : attributeBase e f X.env (eval e X.env) = eval e X.env := by rfl) : QE X W (.Attribute e f pos) (wFld X.K x f we) := PE.imp (pe_fld he hb) fun σ H Q ⟨p, σd, l, Qd, Ed, hH, R, hw, k, lk⟩ => by
  subst hH
  refine cE_ok R hw lk fun v l1 u p1 e1 R1 r1 q1 => ?_
  unfold kFld at q1
  split at q1
  · rename_i C ns' xs
    obtain ⟨rfl, y, hy, qq⟩ := q1
    cases r1 with
    | @obj a _ dx _ _ vs hF h1 h2 =>
      obtain ⟨w, hw, rw'⟩ := rds_look h2 hy
      exact ⟨a, _, dx, _, w, rfl, h1, c.cls, c.no f hf, hw, k (.d y) l1 w p1 e1 R1 rw' qq⟩
  · exact q1.elim
/-- o.f = .. , o an instance that is being made -/
def putN (f : Str) (y : D) : List Str → List D → List Str × List D
  | [], _ => ([f], [y])
  | g :: ns, [] => (g :: ns, [])
  | g :: ns, x :: xs => if g = f then (g :: ns, y :: xs) else ((g :: (putN f y ns xs).1), x :: (putN f y ns xs).2)
theorem putN_ok {K : PySem.W.Frag} {p : Pt} {f : Str} {y : D} {v : V} (r : RD K p y v) : ∀ {ns : List Str} {xs : List D} {vs : List V}, ns.length = xs.length → RDs K p xs vs → ∃ us, putF f v (ns.zip vs) = (putN f y ns xs).1.zip us ∧ (putN f y ns xs).1.length = (putN f y ns xs).2.length ∧ RDs K p (putN f y ns xs).2 us
  | [], [], _, _, .nil => ⟨[v], rfl, rfl, .cons r .nil⟩
  | g :: ns, x :: xs, _, hl, .cons (v := w) (vs := ws) h t => by
    unfold putN
    show ∃ us, (if g = f then (g, v) :: ns.zip ws else (g, w) :: putF f v (ns.zip ws)) = _ ∧ _
    by_cases hg : g = f
    · rw [if_pos hg, if_pos hg]
      exact ⟨v :: ws, rfl, hl, .cons r t⟩
    · rw [if_neg hg, if_neg hg]
      obtain ⟨us, e1, e2, e3⟩ := putN_ok r (ns := ns) (xs := xs) (by simpa using hl) t
      exact ⟨w :: us, by rw [e1]; rfl, by simpa using e2, .cons h e3⟩
  | [], _ :: _, _, hl, _ => by simp at hl
  | _ :: _, [], _, hl, _ => by simp at hl
def kAtt (K : PySem.W.Frag) (x f : Str) (d : P) (σ : SS) (Q : SS → LS → Prop) (v : P) (l : LS) : Prop := match d, v with
  | .d y, .loc n => match l[n]? with
    | some (.ins C ns xs) => C = clsA K x ∧ ns.length < 1000 ∧ Q σ (l.set n (.ins C (putN f y ns xs).1 (putN f y ns xs).2))
    | _ => False
  | _, _ => False
def gAttD (K : PySem.W.Frag) (x f : Str) (wo : WE) (d : P) (σ : SS) (l : LS) (Q : SS → LS → Prop) : Prop := wo σ l (kAtt K x f d σ Q) noEx
theorem qg_att {ns : List Str} (c : ClsQ X.K x ns) (hf : f ∈ ns) (ho : QE X W o wo) : QG X (.Attribute o f pos) (gAttD X.K x f wo) := PG.imp (pg_att ho) fun v σ H Q ⟨p, σd, l, d, Qd, hH, R, r, hw, k⟩ => by
  subst hH
  refine cE_ok R hw LinkE.never fun x1 l1 vx p1 e1 R1 r1 q1 => ?_
  unfold kAtt at q1
  split at q1
  · rename_i y n
    obtain ⟨a, h1, rfl⟩ := r1
    split at q1
    · rename_i C ns' xs ek
      obtain ⟨rfl, hl, qq⟩ := q1
      obtain ⟨b, h2, nf, dx, vs, h3, hlen, h4⟩ := R1.ce.2 _ _ ek
      rw [h1] at h2; cases h2
      have hr := List.mem_of_getElem? h1
      have ht : ∀ vs, p1.H a ≠ some (.tup vs) := fun _ z => by rw [h3] at z; cases z
      obtain ⟨us, g1, g2, g3⟩ := putN_ok (f := f) (RD.mono e1.hf r) hlen h4
      refine ⟨a, _, dx, _, rfl, h3, c.cls, c.no f hf, by rw [List.length_zip]; omega, ?_⟩
      rw [g1]
      have e2 := ext_put (o := .ins (clsA X.K x) dx ((putN f y ns' xs).1.zip us)) hr nf ht
      exact k _ σ σd _ (e1.trans e2) (R1.ext e2 (wf_put R1.wf) (Cells.put (c := .ins _ _ _) R1.wf R1.ce h1 nf ht ⟨nf, dx, us, upd_same, g2, g3.mono e2.hf⟩)) qq
    · exact q1.elim
  · exact q1.elim
/-- a class as it may be made by its name -/
def MakQ (P : Program) (w : World) (K : PySem.W.Frag) (mg : Str → Option Value) (base : Heap) (k : Nat) (x : Str) (n : Nat) (fs : FS) : Prop :=
  ∃ f fd ps, Mk K (clsA K x) f ∧ FnOk P w K mg base (L2N.CX P w) k f fd ps (spQ K (n + 1) fs) ∧ mg x = some (.ref (clsA K x)) ∧ Binds K fd ps []
def allD : List P → Bool
  | [] => true
  | .d _ :: r => allD r
  | _ :: _ => false
def kMk2 (n : Nat) (Q : P → LS → Prop) (_ : P) (l : LS) : Prop := match l[n]? with
  | some (.ins C ns xs) => Q (.d (.obj C ns xs)) (l.set n (.fz (.obj C ns xs)))
  | _ => False
def kMk (K : PySem.W.Frag) (x : Str) (n : Nat) (fs : FS) (Q : P → LS → Prop) (E : EK) (vs : List P) (l : LS) : Prop := vs.length = n ∧ allD vs = true ∧ fs (.loc 0 :: vs) [.ins (clsA K x) [] []] (fun r cs => r = .d .non ∧ ∃ C ns xs, cs[0]? = some (.ins C ns xs) ∧ Q (.d (.obj C ns xs)) l) (fun ex _ => E ex l)
def wMk (K : PySem.W.Frag) (x : Str) (n : Nat) (fs : FS) (ws : WA) (σ : SS) (l : LS) (Q : P → LS → Prop) (E : EK) : Prop := ws σ l (kMk K x n fs Q E) E
theorem allD_relab : ∀ (vs : List P) (i : Nat), allD vs = true → relab vs i = vs ∧ locsOf vs = []
  | [], _, _ => ⟨rfl, rfl⟩
  | .d x :: r, i, h => by
    have ih := allD_relab r i h
    exact ⟨by show .d x :: relab r i = _; rw [ih.1], ih.2⟩
  | .loc _ :: _, _, h => by cases h
  | .exc _ _ _ _ :: _, _, h => by cases h
end
end QL
set_option Elab.async false
set_option linter.all false
set_option maxRecDepth 100000
set_option maxHeartbeats 4000000
/-! QO2: a new instance; methods; defs with defaults. -/
namespace QL
open PySem L2
section
variable {K : PySem.W.Frag}
theorem allD_mono {p p' : Pt} (e : HF p p') : ∀ {vs : List P} {us : List V}, allD vs = true → RPs K p vs us → RPs K p' vs us
  | [], _, _, .nil => .nil
  | .d x :: r, _, h, .cons q t => .cons (show RP K p' (.d x) _ from RD.mono e q) (allD_mono e h t)
  | .loc _ :: _, _, h, _ => by cases h
  | .exc _ _ _ _ :: _, _, h, _ => by cases h
theorem make_ok {x : Str} {n : Nat} {fs : FS} {vs : List P} {us : List V} {p : Pt} {l : LS} {Qd : P → LS → Prop} {Ed : EK} {Q : VK} {E : XK} {a dx : Addr} (w : WF p) (ce : Cells K p l) (r : RPs K p vs us) (h : kMk K x n fs Qd Ed vs l) (ha : p.H a = none) (hd : p.H dx = none) (ne : dx ≠ a)
    (k : After K p Qd Q) (kx : ∀ ex l' cls dd p', Ext p p' → WF p' → Cells K p' l' → XR K p' ex cls dd → Ed ex l' → E cls dd p'.H) :
    spQ K (n + 1) fs (.ref a :: us) (upd (upd p.H dx (.own a)) a (.ins (clsA K x) dx [])) (fun v H2 => v = .non ∧ Q (.ref a) H2) E := by
  obtain ⟨hn, hall, h⟩ := h
  have up : ∀ b o, p.H b = some o → upd (upd p.H dx (.own a)) a (.ins (clsA K x) dx []) b = some o := fun b o z => by
    rw [upd_ne (ne_of_none z ha), upd_ne (ne_of_none z hd)]; exact z
  have hfc : HF p ⟨upd (upd p.H dx (.own a)) a (.ins (clsA K x) dx []), [a], p.F⟩ := ⟨fun _ z => z, fun b o z _ => up b o z, fun b o z => up b _ z⟩
  refine ⟨⟨upd (upd p.H dx (.own a)) a (.ins (clsA K x) dx []), [a], p.F⟩, .loc 0 :: vs, [.ins (clsA K x) [] []], _, _, rfl, ⟨by simp, fun b m => ?_, fun b m => ?_⟩, ⟨rfl, fun i c e => ?_⟩, .cons ⟨a, rfl, rfl⟩ (allD_mono hfc hall r), by simp [hn], h, fun d l' v p' e w' c' rr q => ?_, fun ex l' cls dd p' e w' c' xr q => ?_⟩
  · simp at m
    subst m
    exact ⟨_, upd_same⟩
  · obtain ⟨o, z⟩ := w.fs b m
    exact ⟨o, up b o z⟩
  · cases i with
    | zero =>
      simp at e
      subst e
      exact ⟨a, rfl, fun z => w.nF ha z, dx, [], upd_same, rfl, .nil⟩
    | succ i => simp at e
  all_goals
    have keepR : ∀ b o, p.H b = some o → b ≠ a → p'.H b = some o := fun b o z nb => e.keep b o (up b o z) (by simpa using nb)
    have back : ∀ b, upd (upd p.H dx (.own a)) a (.ins (clsA K x) dx []) b = none → p.H b = none := fun b z => by
      cases q0 : p.H b with
      | none => rfl
      | some o => rw [up b o q0] at z; cases z
  · obtain ⟨rfl, C, ns, xs, hc, q⟩ := q
    cases rr
    refine ⟨rfl, ?_⟩
    obtain ⟨b, h1, h2⟩ := c'.2 _ _ hc
    obtain ⟨t, ht⟩ := e.pre
    have hb : b = a := by rw [ht] at h1; simpa using h1.symm
    subst hb
    obtain ⟨nf, dx2, ws, h3, hlen, h4⟩ := h2
    have E3 : Ext p ⟨p'.H, p.rho, fun c => p'.F c ∨ c = b⟩ := by
      refine ⟨⟨[], by simp⟩, fun _ z => .inl z, fun c z => .inl (e.fm c z), fun c z => ?_, fun c o z _ => keepR c o z (ne_of_none z ha), fun c o z _ => keepR c o z (ne_of_none z ha), fun c o z => ⟨o, keepR c o z (ne_of_none z ha)⟩, fun c o z => keepR c _ z (ne_of_none z ha)⟩
      rcases z with z | z
      · rcases e.fn c z with z | z | z
        · exact .inl z
        · exact .inr (.inl (back c z))
        · simp at z; exact .inr (.inl (by rw [z]; exact ha))
      · exact .inr (.inl (by rw [z]; exact ha))
    have W3 : WF ⟨p'.H, p.rho, fun c => p'.F c ∨ c = b⟩ := by
      refine ⟨w.nd, fun c m => ?_, fun c m => ?_⟩
      · obtain ⟨o, z⟩ := w.hs c m
        exact ⟨o, keepR c o z (ne_of_none z ha)⟩
      · rcases m with m | m
        · exact w'.fs c m
        · exact ⟨_, by rw [m]; exact h3⟩
    have C3 : Cells K ⟨p'.H, p.rho, fun c => p'.F c ∨ c = b⟩ l := by
      refine ⟨ce.1, fun i c hi => ?_⟩
      obtain ⟨g, g1, g2⟩ := ce.2 i c hi
      obtain ⟨o, z⟩ := w.hs g (List.mem_of_getElem? g1)
      refine ⟨g, g1, g2.mono E3 ((keepR g o z (ne_of_none z ha)).trans z.symm) fun y => ?_⟩
      rcases y with y | y
      · rcases e.fn g y with y | y | y
        · exact y
        · rw [back g y] at z; cases z
        · simp at y; rw [y, ha] at z; cases z
      · rw [y, ha] at z; cases z
    exact k (.d (.obj C ns xs)) l (.ref b) ⟨p'.H, p.rho, fun c => p'.F c ∨ c = b⟩ E3 W3 C3 (show RP K ⟨p'.H, p.rho, fun c => p'.F c ∨ c = b⟩ (.d (.obj C ns xs)) (.ref b) from RD.obj (.inr rfl) h3 (RDs.mono (p := p') (p' := ⟨p'.H, p.rho, fun c => p'.F c ∨ c = b⟩) ⟨fun _ z => Or.inl z, fun _ _ z _ => z, fun _ _ z => z⟩ h4)) q
  · have E3 : Ext p ⟨p'.H, p.rho, p'.F⟩ := by
      refine ⟨⟨[], by simp⟩, fun _ z => .inl z, e.fm, fun c z => ?_, fun c o z _ => keepR c o z (ne_of_none z ha), fun c o z _ => keepR c o z (ne_of_none z ha), fun c o z => ⟨o, keepR c o z (ne_of_none z ha)⟩, fun c o z => keepR c _ z (ne_of_none z ha)⟩
      rcases e.fn c z with z | z | z
      · exact .inl z
      · exact .inr (.inl (back c z))
      · simp at z; exact .inr (.inl (by rw [z]; exact ha))
    have W3 : WF ⟨p'.H, p.rho, p'.F⟩ := ⟨w.nd, fun c m => by
      obtain ⟨o, z⟩ := w.hs c m
      exact ⟨o, keepR c o z (ne_of_none z ha)⟩, w'.fs⟩
    have C3 : Cells K ⟨p'.H, p.rho, p'.F⟩ l := by
      refine ⟨ce.1, fun i c hi => ?_⟩
      obtain ⟨g, g1, g2⟩ := ce.2 i c hi
      obtain ⟨o, z⟩ := w.hs g (List.mem_of_getElem? g1)
      refine ⟨g, g1, g2.mono E3 ((keepR g o z (ne_of_none z ha)).trans z.symm) fun y => ?_⟩
      rcases e.fn g y with y | y | y
      · exact y
      · rw [back g y] at z; cases z
      · simp at y; rw [y, ha] at z; cases z
    exact kx ex l cls dd ⟨p'.H, p.rho, p'.F⟩ E3 W3 C3 (XR.mono (p := p') (p' := ⟨p'.H, p.rho, p'.F⟩) ⟨fun _ z => z, fun _ _ z _ => z, fun _ _ z => z⟩ xr) q
end
section
variable {X : Cx} {W : WX} {o e : Expr} {es : List Expr} {wo we : WE} {ws : WA} {pos q apos : Pos} {x m : Str} {fs : FS} {k j n : Nat}
theorem qe_make (c : MakQ X.prog X.w X.K X.mg X.base k x n fs) (hr : Room j X.A) (hk : k + 1 ≤ j) (tk : L2N.Takes X W) (hg : Gl X x) (ha : QA X W (e :: es) ws)
    (hdb : (x == ("__debug__" : Str)) = false := by decide) (he : starEach (e :: es) X.env = (false, eval e X.env) :: starEach es X.env := by rfl) (hpl : (backTo pos (starEach es X.env)).any (·.1) = false := by rfl) :
    QE X W (.Call (.Name x q) (e :: es) [] pos) (wMk X.K x n fs ws) := by
  obtain ⟨f, fd, ps, M, F, hm, hb⟩ := c
  refine PE.imp (pe_makeS (E := fun σ => L2.WE W σ) M F (hr.mono hk) hg hm hb (fun σ => L2N.passAt tk σ) ha hdb he hpl) fun σ H Q ⟨p, σd, l, Qd, Ed, hH, R, hw, kk, lk⟩ => ?_
  subst hH
  refine cA_ok R hw lk fun vs l1 us p1 e1 R1 r1 q1 => fun a dx h1 h2 h3 => ?_
  exact make_ok R1.wf R1.ce r1 q1 h1 h2 h3 (fun d l' v p' e' w' c' r' q' => kk d l' v p' (e1.trans e') (R1.ext e' w' c') r' q') fun ex l' cls dd p' e' w' c' x q => lk ex l' cls dd p' (e1.trans e') (R1.ext e' w' c') x q
/-! ### o.m(), the method raises nothing -/
structure MetQ (P : Program) (w : World) (K : PySem.W.Frag) (mg : Str → Option Value) (base : Heap) (k : Nat) (x m : Str) (n : Nat) (fs : FS) : Prop where
  cls : Cls K (clsA K x)
  met : ∃ f fd ps, Meth K (clsA K x) m f ∧ FnOk P w K mg base (L2N.CX P w) k f fd ps (spQ K n fs) ∧ Binds K fd ps []
def isObj (K : PySem.W.Frag) (x m : Str) : P → Prop
  | .d (.obj C ns xs) => C = clsA K x ∧ (ns.zip xs).lookup m = none
  | _ => False
def kMt0 (K : PySem.W.Frag) (x m : Str) (fs : FS) (Q : P → LS → Prop) (v : P) (l : LS) : Prop := isObj K x m v ∧ callP fs [v] l Q noEx
def wMt0 (K : PySem.W.Frag) (x m : Str) (fs : FS) (wo : WE) (σ : SS) (l : LS) (Q : P → LS → Prop) (E : EK) : Prop := wo σ l (kMt0 K x m fs Q) E
theorem passes_no : Passes (L2N.CX X.prog X.w) X (fun _ _ _ => False) := fun _ _ _ _ _ _ _ h => by
  obtain ⟨_, _, _, _, _, h⟩ := h
  simp at h
theorem rds_none {p : Pt} {f : Str} : ∀ {ns : List Str} {xs : List D} {vs : List V}, RDs X.K p xs vs → (ns.zip xs).lookup f = none → (ns.zip vs).lookup f = none
  | [], _, _, _, _ => rfl
  | _ :: _, [], _, .nil, _ => rfl
  | n :: ns, x :: xs, _, .cons r t, h => by
    rw [List.zip_cons_cons, List.lookup_cons] at h ⊢
    by_cases e : f == n
    · rw [e] at h; cases h
    · rw [Bool.not_eq_true] at e
      rw [e] at h ⊢
      exact rds_none t h
theorem qe_meth0 {pl : Sem Bool} (c : MetQ X.prog X.w X.K X.mg X.base k x m 1 fs) (hr : Room j X.A) (hk : k ≤ j) (ho : QE X W o wo)
    (ht : eval (.Call (.Attribute o m apos) [] [] pos) X.env = (do
      let ov ← eval o X.env
      standAt apos.atName
      let (f, first) ← holding [ov] (getMethod ov m pl)
      callWith pos f first (backTo pos (starEach [] X.env)) (backToKw pos (keywordEach [] X.env))) := by rfl) : QE X W (.Call (.Attribute o m apos) [] [] pos) (wMt0 X.K x m fs wo) := by
  obtain ⟨cl, f, fd, ps, M, F, hb⟩ := c
  refine PE.imp (pe_meth0 (dvs := []) ho cl M F (hr.mono hk) hb .nil passes_no ht) fun σ H Q ⟨p, σd, l, Qd, Ed, hH, R, hw, kk, lk⟩ => ?_
  subst hH
  refine cE_ok R hw lk fun v l1 u p1 e1 R1 r1 ⟨hi, q1⟩ => ?_
  unfold isObj at hi
  split at hi
  · rename_i C ns xs
    obtain ⟨rfl, hl⟩ := hi
    have r1' := r1
    cases r1 with
    | @obj a _ dx _ _ vs hF h1 h2 =>
      refine ⟨a, dx, _, rfl, h1, rds_none h2 hl, ?_⟩
      show spQ X.K 1 fs [V.ref a] p1.H Q (fun _ _ _ => False)
      exact call_ok (n := 1) R1.wf R1.ce (.cons r1' .nil) rfl q1 (fun d l' v p' e' w' c' r' q' => kk d l' v p' (e1.trans e') (R1.ext e' w' c') r' q') fun ex l' cls dd p' e' w' c' x q => q.elim
  · exact hi.elim
/-! ### f(..) with defaults -/
def CalD (P : Program) (w : World) (K : PySem.W.Frag) (mg : Str → Option Value) (base : Heap) (k : Nat) (x : Str) (n : Nat) (dd : List D) (fs : FS) : Prop :=
  ∃ f fd ps ds dvs, FnOk P w K mg base (L2N.CX P w) k f fd ps (spQ K n fs) ∧ mg x = some (.ref f) ∧ PySem.W.keepIn K (.ref f) = true ∧ Binds K fd ps ds ∧ Vals dvs ds ∧ ∀ p, RDs K p dd dvs
def kCallD (n : Nat) (dd : List D) (fs : FS) (Q : P → LS → Prop) (E : EK) (vs : List P) (l : LS) : Prop := (vs ++ dd.map P.d).length = n ∧ callP fs (vs ++ dd.map P.d) l Q E
def wCallD (n : Nat) (dd : List D) (fs : FS) (ws : WA) (σ : SS) (l : LS) (Q : P → LS → Prop) (E : EK) : Prop := ws σ l (kCallD n dd fs Q E) E
theorem rps_app {p : Pt} {dd : List D} {dvs : List V} (h : RDs X.K p dd dvs) : ∀ {vs : List P} {us : List V}, RPs X.K p vs us → RPs X.K p (vs ++ dd.map P.d) (us ++ dvs)
  | [], _, .nil => by
    have : ∀ {dd : List D} {dvs : List V}, RDs X.K p dd dvs → RPs X.K p (dd.map P.d) dvs := by
      intro dd
      induction dd with
      | nil => intro _ h; cases h; exact .nil
      | cons d dd ih => intro _ h; cases h with | cons a b => exact .cons a (ih b)
    exact this h
  | v :: vs, _, .cons a b => .cons a (rps_app h b)
theorem qe_callD {dd : List D} (c : CalD X.prog X.w X.K X.mg X.base k x n dd fs) (hr : Room j X.A) (hk : k ≤ j) (tk : L2N.Takes X W) (hg : Gl X x) (ha : QA X W (e :: es) ws)
    (hdb : (x == ("__debug__" : Str)) = false := by decide) (he : starEach (e :: es) X.env = (false, eval e X.env) :: starEach es X.env := by rfl) (hpl : (backTo pos (starEach es X.env)).any (·.1) = false := by rfl) :
    QE X W (.Call (.Name x q) (e :: es) [] pos) (wCallD n dd fs ws) := by
  obtain ⟨f, fd, ps, ds, dvs, F, hm, hkp, hb, hv, hd⟩ := c
  refine PE.imp (pe_callSD (E := fun σ => L2.WE W σ) F (hr.mono hk) hg hm hkp hb hv (fun σ => L2N.passAt tk σ) ha hdb he hpl) fun σ H Q ⟨p, σd, l, Qd, Ed, hH, R, hw, kk, lk⟩ => ?_
  subst hH
  exact cA_ok R hw lk fun vs l1 us p1 e1 R1 r1 q1 => call_ok R1.wf R1.ce (rps_app (hd p1) r1) q1.1 q1.2 (fun d l' v p' e' w' c' r' q' => kk d l' v p' (e1.trans e') (R1.ext e' w' c') r' q') fun ex l' cls dd p' e' w' c' x q => lk ex l' cls dd p' (e1.trans e') (R1.ext e' w' c') x q
end
end QL
set_option Elab.async false
set_option linter.all false
set_option maxRecDepth 100000
set_option maxHeartbeats 4000000
/-! QC2: list comprehensions with two clauses. -/
namespace QL
open PySem L2
/-- the inner loop's element -/
def kEl2 (N : List D → LS → Prop) (acc : List D) (te : WE) (σ : SS) (b : Bool) (l : LS) : Prop := if b = true then te σ l (kEl N acc) noEx else N acc l
def kIn2 (tt1 : WT) (te : WE) (vs1 : List Nat) (σ2 : SS) (N : List D → LS → Prop) (acc : List D) (σ3 : SS) (l : LS) : Prop := wipeD σ3 vs1 = wipeD σ2 vs1 ∧ tt1 σ3 l (kEl2 N acc te σ3) noEx
/-- the inner loop, from what is made so far -/
def lcIn (I1 : Items) (g1 : WG) (tt1 : WT) (te : WE) (vs1 : List Nat) (σ2 : SS) (N : List D → LS → Prop) (acc0 : List D) (l : LS) : Prop := ∃ Iv : Nat → List D → LS → Prop, Iv 0 acc0 l ∧ (∀ j acc l, Iv j acc l → I1.ok l ∧ acc.length < sizeLine) ∧
  (∀ j x acc l, I1.xs[j]? = some x → Iv j acc l → g1 (.d x) (wipeD σ2 vs1) l (kIn2 tt1 te vs1 σ2 (Iv (j + 1)) acc)) ∧ ∀ acc l, Iv I1.xs.length acc l → N acc l
def kTs2 (wi1 : WI) (g1 : WG) (tt1 : WT) (te : WE) (vs1 : List Nat) (N : List D → LS → Prop) (acc : List D) (σ : SS) (b : Bool) (l : LS) : Prop := if b = true then wi1 σ l (fun I1 l => lcIn I1 g1 tt1 te vs1 σ N acc l) noEx else N acc l
def kOut2 (tt : WT) (wi1 : WI) (g1 : WG) (tt1 : WT) (te : WE) (vs vs1 : List Nat) (σ : SS) (N : List D → LS → Prop) (acc : List D) (σ2 : SS) (l : LS) : Prop := wipeD σ2 vs = wipeD σ vs ∧ tt σ2 l (kTs2 wi1 g1 tt1 te vs1 N acc σ2) noEx
def lc2P (I : Items) (g : WG) (tt : WT) (wi1 : WI) (g1 : WG) (tt1 : WT) (te : WE) (vs vs1 : List Nat) (f : Fresh) (σ : SS) (l : LS) (Q : P → LS → Prop) : Prop := ∃ Iv : Nat → List D → LS → Prop, Iv 0 [] l ∧ (∀ i acc l, Iv i acc l → I.ok l) ∧
  (∀ i x acc l, I.xs[i]? = some x → Iv i acc l → g (.d x) (wipeD σ vs) l (kOut2 tt wi1 g1 tt1 te vs vs1 σ (Iv (i + 1)) acc)) ∧ ∀ acc l, Iv I.xs.length acc l → freshL f acc l Q
def wLc2 (wi : WI) (g : WG) (tt : WT) (wi1 : WI) (g1 : WG) (tt1 : WT) (te : WE) (vs vs1 : List Nat) (f : Fresh) (σ : SS) (l : LS) (Q : P → LS → Prop) (E : EK) : Prop := wi σ l (fun I l => lc2P I g tt wi1 g1 tt1 te vs vs1 f σ l Q) E
theorem RP.lat {K : PySem.W.Frag} {p p' : Pt} (e : Lat p p') {x : P} {v : V} (h : RP K p x v) : RP K p' x v := by
  cases x with
  | d x => exact RD.mono e.hf h
  | loc n =>
    obtain ⟨a, h1, h2⟩ := h
    obtain ⟨t, ht⟩ := e.pre
    refine ⟨a, ?_, h2⟩
    rw [ht, List.getElem?_append_left]
    · exact h1
    · exact (List.getElem?_eq_some_iff.mp h1).1
  | exc a c d ex => exact ⟨h.1, h.2.mono e.hf⟩
theorem Slots.lat {K : PySem.W.Frag} {p p' : Pt} (e : Lat p p') {σ : St} {σd : SS} (h : Slots K p σd σ) : Slots K p' σd σ := ⟨h.1, fun i d q => by
  obtain ⟨v, h1, h2⟩ := h.2 i d q
  exact ⟨v, h1, h2.lat e⟩⟩
theorem Grow.addHF {K : PySem.W.Frag} {p1 p : Pt} {b0 : Addr} {acc : List QL.D} {l : LS} (g : Grow K p1 p b0 acc l) (n1 : p1.H b0 = none) (v : V) {vs : List V} : HF p ⟨upd p.H b0 (.lst (vs ++ [v])), p.rho, p.F⟩ := by
  obtain ⟨ws, h1, _⟩ := g.at_
  exact ⟨fun _ z => z, fun b o z f => by
    show upd _ _ _ _ = _
    rw [upd_ne fun q => g.nF (by rw [← q]; exact f)]; exact z, fun b u z => by
    show upd _ _ _ _ = _
    rw [upd_ne fun q => by rw [q, h1] at z; cases z]; exact z⟩
section
variable {X : Cx} {W : WX} {elt tg iter tg1 iter1 : Expr} {ifs ifs1 : List Expr} {scope : Scope} {own : List (Str × Nat)} {pos : Pos} {wi wi1 : WI} {g g1 : WG} {tt tt1 : WT} {te : WE} {vs1 : List Nat}
theorem lc2_ok {f : Fresh} {σ : St} {H : Hp} {Q : VK} (h : cE X.K W (wLc2 wi g tt wi1 g1 tt1 te (own.map (·.2)) vs1 f) σ H Q) : tLc2 (cI X.K W wi) (cGv X.K (own.map (·.2)) g) (cT X.K W0 tt) (cI X.K W0 wi1) (cGv X.K vs1 g1) (cT X.K W0 tt1) (cE X.K W0 te) (own.map (·.2)) vs1 σ H Q := by
  obtain ⟨p, σd, l, Qd, Ed, hH, R, hw, k, lk⟩ := h
  subst hH
  refine cI_ok R hw lk fun I l1 J p1 e1 R1 it q1 D hD => ?_
  obtain ⟨Iv, h0, hok, hturn, hend⟩ := q1
  refine ⟨fun i m H' => m = I.xs.length - i ∧ i ≤ I.xs.length ∧ ∃ p2 l2 acc, p2.H = H' ∧ Grow X.K p1 p2 D acc l2 ∧ Iv i acc l2, ⟨_, rfl, Nat.zero_le _, _, l1, [], rfl, Grow.start R1.wf R1.ce hD, h0⟩, ?_⟩
  rintro i m H2 ⟨rfl, hi, p2, l2, acc, rfl, G2, q2⟩
  obtain ⟨i1, i2, i3⟩ := it p2 l2 G2.e.lat G2.w G2.c (hok _ _ _ q2) i
  by_cases hlt : i < I.xs.length
  · refine .inr ⟨i2 hlt, fun H' => ∃ p2 l2 acc, p2.H = H' ∧ Grow X.K p1 p2 D acc l2 ∧ Iv (i + 1) acc l2, fun H' hN => ⟨I.xs.length - (i + 1), by omega, rfl, hlt, hN⟩, fun x H' hy => ?_⟩
    obtain ⟨p3, rfl, e3, w3, c3, r3⟩ := i3 x H' _ (List.getElem?_eq_getElem hlt) hy
    have G3 := G2.go e3 w3 c3
    have R3 : Rel X.K p3 (wipe σ (own.map (·.2))) (wipeD σd (own.map (·.2))) l2 := ⟨w3, ((R1.sl.mono G3.e).wipe _), c3⟩
    refine ⟨p3, _, l2, .d _, _, rfl, R3, r3, hturn i _ acc l2 (List.getElem?_eq_getElem hlt) q2, fun p4 σ4 σd4 l4 e4 R4 z1 z2 q4 => ⟨wipe_idem z1 z2, ?_⟩⟩
    have G4 := G3.go e4 R4.wf R4.ce
    refine cT_ok R4 q4.2 LinkE.never fun b l5 p5 e5 R5 q5 => ?_
    have G5 := G4.go e5 R5.wf R5.ce
    cases b with
    | false =>
      unfold kTs2 at q5
      rw [if_neg Bool.false_ne_true] at q5 ⊢
      exact ⟨p5, l5, acc, rfl, G5, q5⟩
    | true =>
      unfold kTs2 at q5
      rw [if_pos rfl] at q5 ⊢
      refine cI_ok R5 q5 LinkE.never fun I1 l6 J1 p6 e6 R6 it1 q6 => ?_
      have G6 := G5.go e6 R6.wf R6.ce
      obtain ⟨Iw, g0, gok, gturn, gend⟩ := q6
      refine ⟨fun j k' H' => k' = I1.xs.length - j ∧ j ≤ I1.xs.length ∧ ∃ p7 l7 acc7, p7.H = H' ∧ Lat p6 p7 ∧ Grow X.K p1 p7 D acc7 l7 ∧ Iw j acc7 l7, ⟨_, rfl, Nat.zero_le _, p6, l6, acc, rfl, (Ext.refl _).lat, G6, g0⟩, ?_⟩
      rintro j k' H7 ⟨rfl, hj, p7, l7, acc7, rfl, e7, G7, q7⟩
      obtain ⟨okk, sz⟩ := gok _ _ _ q7
      obtain ⟨j1, j2, j3⟩ := it1 p7 l7 e7 G7.w G7.c okk j
      by_cases hlj : j < I1.xs.length
      · refine .inr ⟨j2 hlj, fun H' => ∃ p7 l7 acc7, p7.H = H' ∧ Lat p6 p7 ∧ Grow X.K p1 p7 D acc7 l7 ∧ Iw (j + 1) acc7 l7, fun H' hN => ⟨I1.xs.length - (j + 1), by omega, rfl, hlj, hN⟩, fun y H' hy => ?_⟩
        obtain ⟨p8, rfl, e8, w8, c8, r8⟩ := j3 y H' _ (List.getElem?_eq_getElem hlj) hy
        have G8 := G7.go e8 w8 c8
        have R8 : Rel X.K p8 (wipe σ4 vs1) (wipeD σd4 vs1) l7 := ⟨w8, ((Slots.lat (e7.trans e8.lat) R6.sl).wipe _), c8⟩
        refine ⟨p8, _, l7, .d _, _, rfl, R8, r8, gturn j _ acc7 l7 (List.getElem?_eq_getElem hlj) q7, fun p9 σ9 σd9 l9 e9 R9 y1 y2 q9 => ⟨wipe_idem y1 y2, ?_⟩⟩
        have G9 := G8.go e9 R9.wf R9.ce
        refine cT_ok R9 q9.2 LinkE.never fun b1 l10 p10 e10 R10 q10 => ?_
        have G10 := G9.go e10 R10.wf R10.ce
        have E10 := ((e7.trans e8.lat).trans e9.lat).trans e10.lat
        cases b1 with
        | false =>
          unfold kEl2 at q10
          rw [if_neg Bool.false_ne_true] at q10 ⊢
          exact ⟨p10, l10, acc7, rfl, E10, G10, q10⟩
        | true =>
          unfold kEl2 at q10
          rw [if_pos rfl] at q10 ⊢
          refine cE_ok R10 q10 LinkE.never fun z l11 v p11 e11 R11 r11 q11 => ?_
          have G11 := G10.go e11 R11.wf R11.ce
          unfold kEl at q11
          split at q11
          · rename_i z
            obtain ⟨vs, h1, h2, G12⟩ := G11.add hD r11
            refine ⟨vs, h1, by rw [h2]; exact sz, _, l11, _, rfl, ?_, G12, q11⟩
            exact (E10.trans e11.lat).trans ⟨G11.addHF hD v, [], by simp⟩
          · exact q11.elim
      · have : j = I1.xs.length := by omega
        subst this
        exact .inl ⟨j1 (Nat.le_refl _), p7, l7, acc7, rfl, G7, gend _ _ q7⟩
  · have : i = I.xs.length := by omega
    subst this
    exact .inl ⟨i1 (Nat.le_refl _), G2.end_ hD (hend _ _ q2) fun d l' v p' e' w' c' r' q' => k d l' v p' (e1.trans e') (R1.ext e' w' c') r' q'⟩
theorem qe_lc2 {f : Fresh} (hc : X.calm = true) (hN : X.N.Nodup) (hi : QI X W tg iter wi) (ok : BlkOk X.N X.env.scope scope own) (hv : ∀ i ∈ vs1, i ∈ own.map (·.2))
    (hg : ∀ (s : Shared) (H : Hp) (C : Addr) (cl : List (Str × Addr)) (fp : List Addr), QGv (X.blk s H scope (compEnvC scope cl C X.env) fp) (own.map (·.2)) tg g) (ht : ∀ (s : Shared) (H : Hp) (C : Addr) (cl : List (Str × Addr)) (fp : List Addr), QTs (X.blk s H scope (compEnvC scope cl C X.env) fp) W0 ifs tt)
    (hi1 : ∀ (s : Shared) (H : Hp) (C : Addr) (cl : List (Str × Addr)) (fp : List Addr), QI (X.blk s H scope (compEnvC scope cl C X.env) fp) W0 tg1 iter1 wi1)
    (hg1 : ∀ (s : Shared) (H : Hp) (C : Addr) (cl : List (Str × Addr)) (fp : List Addr), QGv (X.blk s H scope (compEnvC scope cl C X.env) fp) vs1 tg1 g1) (ht1 : ∀ (s : Shared) (H : Hp) (C : Addr) (cl : List (Str × Addr)) (fp : List Addr), QTs (X.blk s H scope (compEnvC scope cl C X.env) fp) W0 ifs1 tt1)
    (he : ∀ (s : Shared) (H : Hp) (C : Addr) (cl : List (Str × Addr)) (fp : List Addr), QE (X.blk s H scope (compEnvC scope cl C X.env) fp) W0 elt te) (hs : ∀ x, foldedSetIterable iter X.env x = pure x := by intro _; rfl) (hs1 : ∀ env x, foldedSetIterable iter1 env x = pure x := by intro _ _; rfl) :
    QE X W (.ListComp elt [⟨tg, iter, ifs, 0⟩, ⟨tg1, iter1, ifs1, 0⟩] scope pos) (wLc2 wi g tt wi1 g1 tt1 te (own.map (·.2)) vs1 f) :=
  PE.imp (pe_lc2 (own := own) (vs1 := vs1) (g := cGv X.K (own.map fun q : Str × Nat => q.2) g) (tt := cT X.K W0 tt) (wi1 := cI X.K W0 wi1) (g1 := cGv X.K vs1 g1) (tt1 := cT X.K W0 tt1) (te := cE X.K W0 te) hc hN hi ok hv hg ht hi1 hg1 ht1 he hs hs1) fun σ H Q h => lc2_ok h
end
end QL
set_option Elab.async false
set_option linter.all false
set_option maxRecDepth 100000
set_option maxHeartbeats 4000000
/-! QX7: a caught exception is handed to a def. -/
namespace QL
open PySem L2
section
variable {X : Cx} {pins : List (Addr × Obj)} {σ : St} {H : Hp} {s : Shared} {a : Addr} {oe : Obj}
/-- the suite's exception is laid to the base, for a callee -/
theorem base_add (I : Inv X pins σ H s) (hp : (a, oe) ∈ X.pn) (hf : ∃ vs, oe.data = .fields vs) : ∃ B : Heap, B.get? a = some oe ∧ Env0 X.prog X.w X.K X.mg B X.A X.stack s H := by
  obtain ⟨ha, hn, _, _, _⟩ := I.pin (a, oe) (List.mem_append_left _ hp)
  obtain ⟨vs, hv⟩ := hf
  let l := (List.range s.heap.objs.size).filter fun b => !((X.base.get? b).isSome || decide (b = a))
  have mem : ∀ b, b ∈ l → X.base.get? b = none ∧ b ≠ a := fun b hb => by
    have z := (List.mem_filter.mp hb).2
    simp only [Bool.not_eq_true', Bool.or_eq_false_iff, decide_eq_false_iff_not, Option.isSome_eq_false_iff, Option.isNone_iff_eq_none] at z
    exact z
  have nmem : ∀ b, b < s.heap.objs.size → X.base.get? b = none → b ≠ a → b ∈ l := fun b h1 h2 h3 => by
    exact List.mem_filter.mpr ⟨List.mem_range.mpr h1, by simp [h2, h3]⟩
  have keep : ∀ b o, X.base.get? b = some o → (PySem.W.hideAll s.heap l).get? b = some o := fun b o e =>
    PySem.W.hideAll_get l (I.bk b o e) fun m => by rw [(mem b m).1] at e; cases e
  refine ⟨PySem.W.hideAll s.heap l, PySem.W.hideAll_get l ha fun m => (mem a m).2 rfl, ?_⟩
  refine ⟨I.ok.frames, ⟨I.mod.kin.keeps keep, I.mod.glob.keeps keep, ?_, I.mod.nolimit.keeps keep⟩, fun b o e => ?_, Nat.le_of_eq (PySem.W.hideAll_size _ _), ?_, I.stkFree, I.hok, I.bare⟩
  · obtain ⟨mb, h1, h2⟩ := I.mod.blt
    exact ⟨mb, h1.keeps keep, h2⟩
  · have e2 := PySem.W.of_hideAll l e
    refine ⟨e2, ?_⟩
    by_cases hb : b = a
    · rw [hb]; exact hn
    · cases q : X.base.get? b with
      | some o' => exact (I.bs b o' q).2
      | none =>
        have := PySem.W.hideAll_none (h := s.heap) l (nmem b (Heap.lt_size e2) q hb)
        rw [this] at e; cases e
  · refine funFrames_none I.stack fun L hL => ?_
    obtain ⟨h1, o, ho, hd⟩ := I.stack.mem hL
    refine PySem.W.hideAll_none l (nmem L (Heap.lt_size ho) h1 fun z => ?_)
    rw [z, ha] at ho
    cases ho
    exact hd vs hv
end
/-- a def that takes an exception: its promise holds over every base that has it -/
def CalX (P : Program) (w : World) (K : PySem.W.Frag) (mg : Str → Option Value) (k : Nat) (x : Str) (n : Nat) (fs : Addr → Value → Option Addr → FS) : Prop :=
  ∃ f fd ps, (∀ (a : Addr) (oe : Obj) (cls : Value) (d : Option Addr) (base : Heap), base.get? a = some oe → Zc cls d oe → (∃ vs, oe.data = .fields vs) → L2H.FnH P w K mg base (L2N.CX P w) k f fd ps (spQ K n (fs a cls d))) ∧ mg x = some (.ref f) ∧ PySem.W.keepIn K (.ref f) = true ∧ Binds K fd ps []
section
variable {X : Cx} {W : WX} {e : Expr} {es : List Expr} {we : WE} {ws : WA} {pos q : Pos} {x : Str} {fs : Addr → Value → Option Addr → FS} {k j n : Nat} {a : Addr} {oe : Obj} {cls cv : Value} {d : Option Addr} {f : Str} {L : List Str} {m : Str → Bool} {cV : V} {c : Expr}
theorem qe_callX (hot : L2H.HotC X) (hp : (a, oe) ∈ X.pn) (hz : Zc cls d oe) (hf : ∃ vs, oe.data = .fields vs) (c : CalX X.prog X.w X.K X.mg k x n fs) (hr : L2H.RoomH j X.A) (hk : k ≤ j) (tk : L2N.Takes X W) (hg : Gl X x) (ha : QA X W (e :: es) ws)
    (hdb : (x == ("__debug__" : Str)) = false := by decide) (he : starEach (e :: es) X.env = (false, eval e X.env) :: starEach es X.env := by rfl) (hpl : (backTo pos (starEach es X.env)).any (·.1) = false := by rfl) :
    QE X W (.Call (.Name x q) (e :: es) [] pos) (wCall n (fs a cls d) ws) := by
  obtain ⟨f, fd, ps, F, hm, hkp, hb⟩ := c
  refine ⟨fun pins s σ H Q I h => ?_⟩
  obtain ⟨p, σd, l, Qd, Ed, hH, R, hw, kk, lk⟩ := h
  subst hH
  refine wpAny_Call_Name_kw (ld_glob I hg hm ?_ hdb)
  refine PySem.W.callWith_K (h₀ := X.base) I.ok.mod.kin hkp (thn (ha.run pos pins s σ _ (fun us H1 => spQ X.K n (fs a cls d) us H1 Q (L2.WE W σ)) I (cA_ok R hw lk fun vs l1 us p1 e1 R1 r1 q1 => ?_)) fun us s1 ⟨vs, H1, I1, r, h⟩ => ⟨I1.kIn, ?_⟩) he hpl
  · exact call_ok R1.wf R1.ce r1 q1.1 q1.2 (fun d l' v p' e' w' c' r' q' => kk d l' v p' (e1.trans e') (R1.ext e' w' c') r' q') fun ex l' cls dd p' e' w' c' x q => lk ex l' cls dd p' (e1.trans e') (R1.ext e' w' c') x q
  · obtain ⟨B, hB, e0⟩ := base_add I1 hp hf
    have F1 := F a oe cls d B hB hz hf
    have hl : us.length = ps.length := by rw [← r.length]; exact F1.len _ _ _ _ h
    have b := hb s1 us I1.kIn (by rw [List.append_nil]; exact hl)
    rw [List.append_nil] at b
    obtain ⟨p1, ht1, hp1⟩ := hot
    have P1 := I1.pin p1 (List.mem_append_left _ hp1)
    have hpin : L2H.PinOk X.stack H1 s1 p1 := ⟨P1.1, P1.2.1, fun hm => (List.mem_cons.mp (I1.stkSub p1.1 hm)).elim P1.2.2.1 P1.2.2.2.1, P1.2.2.2.2⟩
    refine wpAny_call (codeAny_mono (F1.run X.A X.stack s1 H1 ⟨us, []⟩ us vs Q (L2.WE W σ) p1 (hr.mono hk) ht1 hpin e0 b r h) fun r s' hq => ?_)
    cases r with
    | error e => exact L2N.passAt tk σ pins H1 s1 e s' I1 hq
    | ok fl =>
      cases fl with
      | ret u => exact I1.after hq
      | next => exact False.elim hq
      | brk => exact False.elim hq
      | cont => exact False.elim hq
theorem qe_xfB (hB : X.base.get? a = some oe) (hL : ∀ y ∈ L, XfC X.K (clsA X.K y) ∧ PySem.W.findIn X.K (.ref (clsA X.K y)) f = some none)
    (hz : Zc cls d oe) (hf : ∃ vs, oe.data = .fields vs) (he : QE X W e we) (hb : attributeBase e f X.env (eval e X.env) = eval e X.env := by rfl) :
    QE X W (.Attribute e f pos) (wXf a cls d L f we) := by
  refine ⟨fun pins s σ H Q I h => ?_⟩
  obtain ⟨p, σd, l, Qd, Ed, hH, R, hw, kk, lk⟩ := h
  subst hH
  refine attr_of hb (thn (he.run pins s σ _ (fun v H1 => ∃ (p1 : Pt) (l1 : LS) (r : P), p1.H = H1 ∧ Ext p p1 ∧ Rel X.K p1 σ σd l1 ∧ RP X.K p1 r v ∧ kXf a cls d L f Qd r l1) I (cE_ok R hw lk fun r l1 v p1 e1 R1 r1 q1 => ⟨p1, l1, r, rfl, e1, R1, r1, q1⟩)) fun u s1 hh => ?_)
  obtain ⟨v, H1, I1, ru, p1, l1, r, rfl, e1, R1, r1, x, ns, xs, y, rfl, hx, hy, q⟩ := hh
  obtain ⟨T, hno⟩ := hL x hx
  obtain ⟨rfl, rfl, dd, vs, rfl, hF, hd, rds⟩ := r1
  obtain rfl : u = Value.ref a := ru
  have ha := I1.bk a oe hB
  obtain ⟨vs0, hd0⟩ := hf
  have hx : ObjOk X.prog X.w p1.H s1.heap dd (.xd (ns.zip vs)) := I1.hok dd _ hd
  obtain ⟨mA, hns, hr⟩ := hx
  obtain ⟨od, ho, hl⟩ := lookIn_ns hns
  obtain ⟨v, hv, rv⟩ := rds_look rds hy
  obtain ⟨u, hu, ru⟩ := RelO.some_of (v := v) (o := mA f) (by rw [← hv]; exact hr f)
  have J : PySem.W.InstAt s1.heap a oe (clsA X.K x) (some od) := ⟨ha, hz.1, by unfold PySem.W.notCls; rw [hd0] <;> rfl, by rw [hz.2]; exact ho⟩
  exact HandSPX.exc_get I1.kIn J T.ga T.gg T.exC (PySem.W.findObj_own T.hdC hno rfl (by rw [hl, hu])) (handed_of ru) ⟨v, p1.H, I1.tok _, ru, kk (.d y) l1 v p1 e1 R1 rv q⟩
theorem call_isXB (hB : X.base.get? a = some oe) (hL : ∀ y ∈ L, ExcC X.K (clsA X.K y) ∧ PySem.W.kitOne X.K (.ref (clsA X.K y)) cv = some (m y))
    (hz : Zc cls d oe) (hf : ∃ vs, oe.data = .fields vs) : CallR X (.builtin "isinstance") (rIsX X.K L m cv a cls d) := by
  intro pins s σ H xs us Q I r h
  obtain ⟨c, y, dd, fs, rfl, hcv, hy, rfl, rfl, hd, q⟩ := h
  obtain ⟨C, e⟩ := hL y hy
  cases r with
  | cons rx rr =>
    cases rr with
    | cons rt rr =>
      cases rr
      cases rx
      have ec := hcv _ rt
      subst ec
      have hget := I.bk a oe hB
      obtain ⟨vs, hv⟩ := hf
      have hx : ObjOk X.prog X.w H s.heap dd (.xd fs) := I.hok dd _ hd
      obtain ⟨mA, hns, hr⟩ := hx
      obtain ⟨od, ho, hl⟩ := lookIn_ns hns
      have J : PySem.W.InstAt s.heap a oe (clsA X.K y) (some od) := ⟨hget, hz.1, by unfold PySem.W.notCls; rw [hv] <;> rfl, by rw [hz.2]; exact ho⟩
      exact PySem.W.kia_one (PySem.W.q_kit C) I.kIn J e (fun z => nomatch z) fun tk => ⟨.bl (m y), H, I.kept (t' := tk) fun _ _ z => z, rfl, q⟩
theorem qe_isXB (hB : X.base.get? a = some oe) (hL : ∀ y ∈ L, ExcC X.K (clsA X.K y) ∧ PySem.W.kitOne X.K (.ref (clsA X.K y)) cv = some (m y))
    (hz : Zc cls d oe) (hf : ∃ vs, oe.data = .fields vs) (he : QE X W e we) (hc : PE X c (tC cV)) (hcv : ∀ u, RelV cV u → u = cv)
    (hg : Gl X "isinstance") (hm : X.mg "isinstance" = none)
    (hst : starEach (e :: [c]) X.env = (false, eval e X.env) :: starEach [c] X.env := by rfl) (hst2 : starEach [c] X.env = [(false, eval c X.env)] := by rfl) (hpl : (backTo pos (starEach [c] X.env)).any (·.1) = false := by rfl) :
    QE X W (.Call (.Name "isinstance" q) [e, c] [] pos) (wIsX L m a cls d we) := by
  refine PE.imp (pe_callB (call_isXB hB hL hz hf) hg hm (by rfl) (pa_cons he (pa_cons hc pa_nil hst2) hst) (by decide) (by decide) hst hpl) fun σ H Q ⟨p, σd, l, Qd, Ed, hH, R, hw, kk, lk⟩ => ?_
  subst hH
  refine cE_ok R hw lk fun r l1 v p1 e1 R1 r1 ⟨y, ns, xs, er, hy, q⟩ => ?_
  subst er
  obtain ⟨rfl, ec, dd, vs, ed, hF, hd, rds⟩ := r1
  exact ⟨cV, y, dd, _, rfl, hcv, hy, ec, ed, hd, kk (.d (.bl (m y))) l1 _ p1 e1 R1 (RD.bl _) q⟩
end
section
variable {P : Program} {w : World} {K : PySem.W.Frag} {mg : Str → Option Value} {base : Heap}
open PyProof.Rows (envOfC) in
/-- THE RULE for a def that runs while an exception is handled -/
theorem fun_qH {x qual : Str} {st : Stmt} {f : Addr} {fd : FuncData} {N ps : List Str} {k : Nat} {fs : FS} {wb : WS} (F : Fun K x qual st f fd) (S : FnScope N ps (defScope st)) (n : Nat) (hn : n = ps.length)
    (hbody : ∀ (cdv : Value) (A : Around) (outer : List Env) (s : Shared) (H : Hp) (E : XK) (p : Addr × Obj), L2H.RoomH k (A.deeper (envOfC qual (defScope st) s.heap.objs.size f cdv)) →
      L2N.Takes (L2H.cxH (L2N.CX P w) P w K mg base N qual (defScope st) f cdv A outer s H E p) (fun cls d _ H => E cls d H) →
      QSs (L2H.cxH (L2N.CX P w) P w K mg base N qual (defScope st) f cdv A outer s H E p) (fun cls d _ H => E cls d H) (defBody st) wb)
    (hw : ∀ ds l Qd Ed, ds.length = n → fs ds l Qd Ed → wb { nx := kEnd l.length Qd, rt := retN l.length Qd, bk := kNever, ct := kNever, ex := kEx Ed } (startD N ds) l) :
    L2H.FnH P w K mg base (L2N.CX P w) (k + 1) f fd ps (spQ K n fs) := by
  obtain ⟨oc, od, kV, doc, pm, an, cdv, ct, osl, rfl, lk, hcd⟩ := F.ex
  refine L2H.fn_ofH lk hcd S (fun vs H Q E h => ?_) fun A outer s H vs Q E p _ hr h => ⟨_, hbody cdv A outer s H E p hr (L2N.takes_of rfl rfl rfl rfl), ?_⟩
  · obtain ⟨p, ds, l, Qd, Ed, _, _, _, r, e, _⟩ := h
    rw [← Paired.length r, e, hn]
  · obtain ⟨p, ds, l, Qd, Ed, rfl, wf, ce, r, e, hfs, kk, kx⟩ := h
    refine cS_ok ⟨wf, start_sl r, ce⟩ (hw ds l Qd Ed e hfs) ⟨fun p' σ' σd' l' e' R q => ?_, fun _ _ _ _ _ _ q => q.elim, fun _ _ _ _ _ _ q => q.elim, fun p' d v l' e' w' c' r' q => ?_, fun p' σ' σd' l' ex cls dd e' R x q => ?_⟩
    · exact ret_ok (r := .d .non) e' R.wf R.ce RD.non ce.1.symm q kk
    · exact ret_ok e' w' c' r' ce.1.symm q kk
    · exact kx ex l' cls dd p' e' R.wf R.ce x q
theorem calx {k : Nat} {x : Str} {n : Nat} {fs : Addr → Value → Option Addr → FS} {f : Addr} {fd : FuncData} {st : Stmt} {ps : List Str} (F : Fun K x x st f fd) (hm : mg x = some (.ref f))
    (ok : ∀ (a : Addr) (oe : Obj) (cls : Value) (d : Option Addr) (base : Heap), base.get? a = some oe → Zc cls d oe → (∃ vs, oe.data = .fields vs) → L2H.FnH P w K mg base (L2N.CX P w) k f fd ps (spQ K n (fs a cls d)))
    (h : ∀ (kV doc pm : Value) (an : Option Addr) (cdv ct : Value) (us : List Value), us.length = ps.length → bindArgs (PySem.W.fnOf x x (defArgs st) (defBody st) (defScope st) .none kV doc pm an cdv ct) ⟨us, []⟩ = pure (ps.zip us)) : CalX P w K mg k x n fs :=
  ⟨f, fd, ps, ok, hm, F.kp, F.binds h⟩
end
end QL
set_option Elab.async false
set_option linter.all false
set_option maxRecDepth 100000
set_option maxHeartbeats 4000000
/-! QS4: a tuple of texts of the module, text.upper(). -/
namespace QL
open PySem L2
section
variable {X : Cx} {W : WX} {x : Str} {pos : Pos} {d : D}
/-- a tuple constant of the module -/
theorem qe_globT (hg : Gl X x) (hm : ∃ u, X.mg x = some u ∧ ∃ v, RelV v u ∧ ∀ p, RD X.K p d v) (hd : (x == ("__debug__" : Str)) = false := by decide) : QE X W (.Name x pos) (wC d) := by
  obtain ⟨u, h1, v, h2, h3⟩ := hm
  exact qe_const (pe_glob hg h1 h2 hd) h3
end
def strOf : Value → Option Str
  | .str x _ => some x
  | _ => none
/-- the texts of a tuple of the written part -/
def strsAt (K : PySem.W.Frag) (u : Value) : Option (List Str) := match u with
  | .ref a => match K.lookup a with
    | some ⟨.type "tuple", _, .seq its _, _⟩ => its.toList.mapM strOf
    | _ => none
  | _ => none
theorem strs_vals {K : PySem.W.Frag} {p : Pt} : ∀ {us : List Value} {xs : List Str}, us.mapM strOf = some xs → Vals (xs.map V.str) us ∧ RDs K p (xs.map D.str) (xs.map V.str) ∧ us.length = xs.length
  | [], xs, h => by
    cases h
    exact ⟨.nil, .nil, rfl⟩
  | u :: us, xs, h => by
    rw [List.mapM_cons] at h
    cases e : strOf u with
    | none => rw [e] at h; cases h
    | some y =>
      cases e2 : us.mapM strOf with
      | none => rw [e, e2] at h; cases h
      | some ys =>
        rw [e, e2] at h
        cases h
        obtain ⟨h1, h2, h3⟩ := strs_vals (K := K) (p := p) e2
        refine ⟨.cons ?_ h1, .cons (.str y) h2, by simp [h3]⟩
        cases u <;> cases e
        exact ⟨_, rfl⟩
theorem strsAt_ok {K : PySem.W.Frag} {u : Value} {xs : List Str} (h : strsAt K u = some xs) (hz : xs.length ≤ sizeLine) : ∃ v, RelV v u ∧ ∀ p, RD K p (.ktu (xs.map .str)) v := by
  unfold strsAt at h
  split at h
  · rename_i a
    split at h
    · rename_i dd its n sl ho
      refine ⟨.ref a, rfl, fun p => ?_⟩
      obtain ⟨h1, h2, h3⟩ := strs_vals (K := K) (p := p) h
      refine .ktu (.inr ⟨_, its, n, ho, rfl, rfl, ?_, h1⟩) h2
      have : its.size = its.toList.length := by simp
      rw [this, h3]
      exact hz
    · cases h
  · cases h
section
variable {X : Cx} {W : WX} {wo : WE} {o : Expr}
def kM0S (rd : ODm) (Q : P → LS → Prop) (x : P) (l : LS) : Prop := (∃ z, x = .d (.str z)) ∧ rd x [] l Q
def wM0S (rd : ODm) (wo : WE) (σ : SS) (l : LS) (Q : P → LS → Prop) (E : EK) : Prop := wo σ l (kM0S rd Q) E
def oUpper (x : P) (_ : List P) (l : LS) (Q : P → LS → Prop) : Prop := match x with
  | .d (.str z) => z.length ≤ 5592405 ∧ Q (.d (.str (Txt.upper z))) l
  | _ => False
theorem qe_upper {apos pos : Pos} (ho : QE X W o wo) (hbase : attributeBase o "upper" X.env (eval o X.env) = eval o X.env := by rfl) (hline : (apos.endLine == pos.line) = true := by rfl) :
    QE X W (.Call (.Attribute o "upper" apos) [] [] pos) (wM0S oUpper wo) :=
  PE.imp (pe_upper ho hbase hline) fun σ H Q ⟨p, σd, l, Qd, Ed, hH, R, hw, k, lk⟩ => by
    subst hH
    refine cE_ok R hw lk fun x l1 v p1 e1 R1 r1 ⟨⟨z, hz⟩, q⟩ => ?_
    subst hz
    cases (show RD X.K p1 (.str z) v from r1)
    exact ⟨⟨z, rfl⟩, z, rfl, rfl, q.1, k (.d _) l1 _ p1 e1 R1 (RD.str _) q.2⟩
end
end QL
namespace QL
open PySem L2
theorem ref_notInC {K : PySem.W.Frag} : RefOp K (fun x y H Q => ∃ i j, x = .str i ∧ y = .str j ∧ Q (.bl (!(!(Builtin.Str.occurrences j i 0 j.length 1).isEmpty))) H) (oInC true) := fun p l x y vx vy Qd Q w ce rx ry h k => by
  unfold oInC at h
  split at h
  · cases rx; cases ry
    obtain ⟨c, rfl, h⟩ := h
    rw [Bool.xor_true] at h
    refine ⟨_, _, rfl, rfl, ?_⟩
    rw [PySem.StrLaws.found_one]
    exact k.same w ce (d := .d _) (RD.bl _) h
  · exact h.elim
end QL
set_option Elab.async false
set_option linter.all false
set_option maxRecDepth 100000
set_option maxHeartbeats 4000000
/-! QH1: within an except suite: a comprehension over a range, calls that take the exception. -/
theorem L2H.RoomH.units {k : Nat} {A : PySem.Around} (r : L2H.RoomH k A) : A.units + 64 < PySem.cLine := by have := r.un; omega
theorem L2H.RoomH.u1 {k : Nat} {A : PySem.Around} (r : L2H.RoomH k A) : A.units + 1 < PySem.cLine := by have := r.un; omega
theorem L2H.RoomH.u65 {k : Nat} {A : PySem.Around} (r : L2H.RoomH k A) : A.units + 65 < PySem.cLine := by have := r.un; omega
theorem L2H.room_hot {k : Nat} {A : PySem.Around} (r : L2.Room k A) (h : Option PySem.Value) : L2H.RoomH k (A.mark h) := ⟨r.dp, r.un⟩
namespace QL
open PySem L2 PySem.Spec PyProof.Rows
theorem takes_noneN {X : Cx} : L2N.Takes X (fun _ _ _ _ => False) := fun _ _ ⟨_, _, _, _, _, _, _, _, _, _, _, _, _, _, _, _, w⟩ => w.elim
/-- in a suite the handled exception's context is None -/
theorem hot_suite {X : Cx} {a : Addr} {oe : Obj} {cls : Value} {d : Option Addr} {pn : List (Addr × Obj)} (hz : L2N.Zn cls d oe) (hf : ∃ vs, oe.data = .fields vs) : L2H.HotC (X.suite a ((a, oe) :: pn)) := by
  obtain ⟨vs, hv⟩ := hf
  exact ⟨(a, oe), ⟨rfl, vs, hv, hz.2.2 vs hv⟩, List.mem_cons_self⟩
/-- the block of a comprehension with its caller's pins -/
abbrev blkP (X : Cx) (s : Shared) (H : Hp) (scope : Scope) (ce : Env) (fp : List Addr) : Cx := { X.blk s H scope ce fp with pn := X.pn }
section
variable {X : Cx} {pins : List (Addr × Obj)} {σ σ' : L2.St} {H H' : Hp} {s s' : Shared} {scope : Scope} {ce : Env} {fp : List Addr}
theorem ok_pn {Y : Cx} {pn : List (Addr × Obj)} (o : Y.Ok) : ({ Y with pn := pn } : Cx).Ok := ⟨o.mod, o.kind, o.glob, o.blt, o.above, o.inj, o.has, o.cab, o.hd, o.frames, o.stk, o.exf, o.bs, o.bsz, o.noex, o.exfs, o.funs, o.frf⟩
theorem pin_on (I3 : L2.Inv X pins σ H s) (hfp : ∀ b ∈ fp, FpOk X pins H b) (hL : ce.locals = s.heap.objs.size) (I : L2.Inv (X.blk s H scope ce fp) [] σ' H' s') : L2.Inv (blkP X s H scope ce fp) [] σ' H' s' := by
  refine ⟨ok_pn I.ok, I.os, I.bare, I.base, I.loc, I.cell, I.free, I.freeC, fun p hp => ?_, I.hok, I.len⟩
  rw [List.append_nil] at hp
  have hp : p ∈ X.pn := hp
  obtain ⟨g1, g2, g3, g4, g5⟩ := I3.pin p (List.mem_append_left _ hp)
  have nst : p.1 ∉ frs X.stack := fun hm => (List.mem_cons.mp (I3.stkSub p.1 hm)).elim g3 g4
  have nfp : p.1 ∉ fp := fun hm => (hfp p.1 hm).2.2.2.2.2 p (List.mem_append_left _ hp) rfl
  refine ⟨I.base.keep p.1 p.2 g1 g2 nst nfp, I.base.free p.1 p.2 g1 g2 nfp, ?_, nst, g5⟩
  show p.1 ≠ ce.locals
  rw [hL]
  exact Nat.ne_of_lt (Heap.lt_size g1)
theorem pin_off {ps : List (Addr × Obj)} (I : L2.Inv (blkP X s H scope ce fp) ps σ' H' s') : L2.Inv (X.blk s H scope ce fp) ps σ' H' s' :=
  ⟨ok_pn (pn := []) I.ok, I.os, I.bare, I.base, I.loc, I.cell, I.free, I.freeC, fun p hp => I.pin p (List.mem_append_right _ (by simpa using hp)), I.hok, I.len⟩
theorem hot_blk (h : L2H.HotC X) : L2H.HotC (blkP X s H scope ce fp) := h
/-- the walk of a comprehension while an exception is handled -/
theorem lc_hot {Q : VK} {elt tg iter : Expr} {ifs : List Expr} {own : List (Str × Nat)} {pos pos' : Pos} {wi : TI} {g : TG} {tt : TT} {te : TE} {use : Option (Value → Sem Unit)} {Qf : Value → Shared → Prop}
    (hot : L2H.HotC X) (hN : X.N.Nodup) (I : L2.Inv X pins σ H s) (hi : L2H.PIH X tg iter wi) (ok : BlkOk X.N X.env.scope scope own)
    (hg : ∀ (s : Shared) (H : Hp) (C : Addr) (cl : List (Str × Addr)) (fp : List Addr), PG (X.blk s H scope (compEnvC scope cl C X.env) fp) tg g) (ht : ∀ (s : Shared) (H : Hp) (C : Addr) (cl : List (Str × Addr)) (fp : List Addr), PTs (X.blk s H scope (compEnvC scope cl C X.env) fp) ifs tt)
    (he : ∀ (s : Shared) (H : Hp) (C : Addr) (cl : List (Str × Addr)) (fp : List Addr), PE (X.blk s H scope (compEnvC scope cl C X.env) fp) elt te) (hs : ∀ x, foldedSetIterable iter X.env x = pure x)
    (h : tLc wi g tt te (own.map (·.2)) σ H Q)
    (fin : ∀ D C s' m H', L2.Inv X pins σ H' s' → Q (.ref D) H' → s'.heap.Ns C m → FpOk X pins H' C → compPost (model X.prog X.w) X.A X.xe use Qf (.ref D) C (.ok .next) s') :
    wpAny (model X.prog X.w) X.A (comprehension (.ListComp elt [⟨tg, iter, ifs, 0⟩] scope pos) scope X.env pos' (newList []) false (eval iter X.env) use) Qf X.xe s := by
  refine wpAny_comprehension_free (use := use) rfl hs (closure_ok fun y hy e => (ok.free y hy e).elim (fun k => I.ok.has _ (.inl k)) fun k => I.ok.has _ (.inr k)) ok.kind (fun y hy e => by rw [ok.uniq y hy, e])
    (thn (hi.run pins s σ H _ I h) fun xv s1 hx => thn hx fun itv s2 h2 => ?_)
  obtain ⟨it, fp, tn, J, H2, rfl, I2, T, st2, f2, q⟩ := h2
  refine wpAny_newObj_type (newEnv_comp ?_) (by show 0 ≤ sizeLine; decide)
  generalize hD : s2.heap.objs.size = D
  have hDn : H2 D = none := I2.hok.fresh (Nat.le_of_eq hD)
  obtain ⟨W, ⟨m0, w0⟩, turn⟩ := q D hDn
  obtain ⟨s3, hs3⟩ : ∃ s3 : Shared, s3 = { s2 with heap := s2.heap.push { cls := .type "list", data := .seq ([] : List Value).toArray } } := ⟨_, rfl⟩
  have h3 : s3.heap = s2.heap.push { cls := .type "list", data := .seq ([] : List Value).toArray } := by rw [hs3]
  have I3 : L2.Inv X pins σ (upd H2 D (.lst [])) s3 := by
    rw [hs3]
    refine I2.laid (t' := s2.toks) (fun b o e => Heap.get?_push_of_some _ e) (Nat.le_of_eq hD) ⟨Nat.zero_le _, [], 0, .nil, ?_⟩
    rw [← hD]
    exact Heap.get?_push_size _ rfl
  have f3 : ∀ b ∈ fp, FpOk X pins (upd H2 D (.lst [])) b ∧ b < s3.heap.objs.size := fun b hb => by
    obtain ⟨o, e, _⟩ := T.obj _ _ st2 b hb
    have hlt := Heap.lt_size e
    refine ⟨⟨?_, (f2 b hb).2⟩, by rw [h3, Heap.size_push]; exact Nat.lt_succ_of_lt hlt⟩
    rw [upd_ne (by rw [← hD]; exact Nat.ne_of_lt hlt)]
    exact (f2 b hb).1
  have I4 := block_start I3 ok hN f3
  have pg := hg s3 (upd H2 D (.lst [])) s3.heap.objs.size (cellsFrom (s3.heap.objs.size + 1) scope.names (cloFrom X.env.cells scope.names [])) fp
  have pt := ht s3 (upd H2 D (.lst [])) s3.heap.objs.size (cellsFrom (s3.heap.objs.size + 1) scope.names (cloFrom X.env.cells scope.names [])) fp
  have pe := he s3 (upd H2 D (.lst [])) s3.heap.objs.size (cellsFrom (s3.heap.objs.size + 1) scope.names (cloFrom X.env.cells scope.names [])) fp
  rw [← hs3]
  show codeAny _ _ (.compStart (.ListComp elt [⟨tg, iter, ifs, 0⟩] scope pos) 0 (.ref it) (.ref D) (compEnvC scope (cellsFrom (s3.heap.objs.size + 1) scope.names (cloFrom X.env.cells scope.names [])) s3.heap.objs.size X.env)) (compPost (model X.prog X.w) X.A X.xe use Qf (.ref D) s3.heap.objs.size) { s3 with heap := pushCells (s3.heap.push { cls := .type "dict", data := .dict #[] }) scope.names }
  generalize hce : compEnvC scope (cellsFrom (s3.heap.objs.size + 1) scope.names (cloFrom X.env.cells scope.names [])) s3.heap.objs.size X.env = ce at I4 pg pt pe ⊢
  have cL : ce.locals = s3.heap.objs.size := by subst hce; rfl
  have nfp : ∀ b ∈ fp, (upd H2 D (.lst [])) b = none := fun b hb => (f3 b hb).1.1
  generalize hH3 : upd H2 D (.lst []) = H3 at I3 I4 pg pt pe w0 nfp f3
  have st4 : tn 0 (pushCells (s3.heap.push { cls := .type "dict", data := .dict #[] }) scope.names) := T.keep _ _ _ st2 fun b _ o e => pushCells_keeps _ _ _ _ (Heap.get?_push_of_some _ (by rw [h3]; exact Heap.get?_push_of_some _ e))
  generalize hs4 : ({ s3 with heap := pushCells (s3.heap.push { cls := .type "dict", data := .dict #[] }) scope.names } : Shared) = s4 at I4 ⊢
  have st4' : tn 0 s4.heap := by rw [← hs4]; exact st4
  -- the block's state, the pins within
  have pinned : ∀ {σ' : L2.St} {H' : Hp} {s' : Shared}, L2.Inv (X.blk s3 H3 scope ce fp) [] σ' H' s' → L2.Inv (blkP X s3 H3 scope ce fp) [] σ' H' s' := fun {σ' H' s'} J => pin_on I3 (fun b hb => (f3 b hb).1) cL J
  have stat : ∀ {σ' : L2.St} {H' : Hp} {s' : Shared}, L2.Inv (blkP X s3 H3 scope ce fp) [] σ' H' s' → (∀ b ∈ fp, H' b = none) → ∀ b ∈ fp, FpOk (blkP X s3 H3 scope ce fp) [] H' b := fun {σ' H' s'} I' hn b hb =>
    ⟨hn b hb, (I'.ok.exf b hb).1, I'.ok.exfs b hb, .inl hb, fun x c e => (I'.ok.exf b hb).2 x c e, fun p hp => (f3 b hb).1.2.2.2.2.2 p (List.mem_append_left _ (by simpa using hp))⟩
  have statB : ∀ {σ' : L2.St} {H' : Hp} {s' : Shared}, L2.Inv (X.blk s3 H3 scope ce fp) [] σ' H' s' → (∀ b ∈ fp, H' b = none) → ∀ b ∈ fp, FpOk (X.blk s3 H3 scope ce fp) [] H' b := fun {σ' H' s'} I' hn b hb =>
    ⟨hn b hb, (I'.ok.exf b hb).1, I'.ok.exfs b hb, .inl hb, fun x c e => (I'.ok.exf b hb).2 x c e, fun p hp => absurd (show p ∈ ([] : List (Addr × Obj)) ++ [] from hp) (by simp)⟩
  have hotB : L2H.HotC (blkP X s3 H3 scope ce fp) := hot_blk hot
  suffices loop : codeAny (model X.prog X.w) X.A (.compLoop (.ListComp elt [⟨tg, iter, ifs, 0⟩] scope pos) 0 (.ref it) (.ref D) ce) (compPost (model X.prog X.w) X.A X.xe use Qf (.ref D) s3.heap.objs.size) s4 from codeAny_compStart_list loop (T.self X.A 0 _ _ _ st4' loop)
  refine compLoop_any (fun n s' => ∃ i H', L2.Inv (X.blk s3 H3 scope ce fp) [] (wipe σ (own.map (·.2))) H' s' ∧ tn i s'.heap ∧ (∀ b ∈ fp, H' b = none) ∧ W i n H') ?_ m0 ⟨0, H3, I4, st4', nfp, w0⟩
  rintro n s5 ⟨i, H5, I5, st5, n5, w5⟩
  rcases turn i n H5 w5 with ⟨stop, qq⟩ | ⟨go, Nx, hNx, step⟩
  · refine thnF (T.done (blkP X s3 H3 scope ce fp) rfl rfl rfl hotB i [] s5 _ H5 (fun _ _ => False) (pinned I5) (stat (pinned I5) n5) st5 stop) fun r s6 ⟨hr, I6'⟩ => ?_
    subst hr
    have I6 := pin_off I6'
    have I7 : L2.Inv X pins σ H5 s6 := I3.call' (ch := fp) I6.os I6.base I6.hok I6.bare fun b hb => ⟨(f3 b hb).1.2.2.2.1, (f3 b hb).1.2.1, (f3 b hb).1.2.2.2.2.1, (f3 b hb).1.2.2.2.2.2⟩
    have nC : H5 s3.heap.objs.size = none := by
      have z : H5 ce.locals = none := I6.free
      rw [cL] at z
      exact z
    obtain ⟨m, hn, _⟩ := I6.loc
    have hn : s6.heap.Ns ce.locals m := hn
    rw [cL] at hn
    exact fin D s3.heap.objs.size s6 m H5 I7 qq hn (I3.fpOk (Nat.le_refl _) nC)
  · refine thnF (T.item (blkP X s3 H3 scope ce fp) rfl rfl rfl hotB i [] s5 _ H5 (fun _ _ => False) (pinned I5) (stat (pinned I5) n5) st5 go) fun r s6 ⟨u, hr, h6⟩ => ?_
    subst hr
    refine thnF h6 fun _ s7 ⟨x, H7, I7', r7, y7, st7, n7⟩ => ?_
    have I7 := pin_off I7'
    have I8' := I7.pinned (statB I7 n7) (T.obj _ _ st7)
    refine thnF (pg.run _ s7 _ H7 x u _ I8' r7 (step x H7 y7)) fun _ s8 ⟨σ8, H8, I8, hw8, q8⟩ => ?_
    refine thnF (pt.run _ s8 σ8 H8 _ I8 q8) fun b s9 ⟨H9, I9, q9⟩ => ?_
    have next : ∀ {s' : Shared} {H' : Hp}, L2.Inv (X.blk s3 H3 scope ce fp) ([] ++ pinsAt fp s7.heap) σ8 H' s' → Nx H' → ∃ m, m < n ∧ ∃ i H', L2.Inv (X.blk s3 H3 scope ce fp) [] (wipe σ (own.map (·.2))) H' s' ∧ tn i s'.heap ∧ (∀ b ∈ fp, H' b = none) ∧ W i m H' := fun {s' H'} I' nx => by
      obtain ⟨m', hm, w'⟩ := hNx H' nx
      have at' : ∀ b ∈ fp, ∀ o, s7.heap.get? b = some o → s'.heap.get? b = some o ∧ H' b = none := fun b hb o e =>
        let z := I'.pin (b, o) (List.mem_append_right _ (List.mem_append_right _ (mem_pinsAt hb e)))
        ⟨z.1, z.2.1⟩
      refine ⟨m', hm, i + 1, H', (I'.unpinned (pins := [])).weak (by rw [← hw8, wipe_length]) (fun j v e => ?_), T.keep _ _ _ st7 fun b hb o e => (at' b hb o e).1, fun b hb => ?_, w'⟩
      · rw [← hw8] at e
        exact (wipe_some e).1
      · obtain ⟨o, e, _⟩ := T.obj _ _ st7 b hb
        exact (at' b hb o e).2
    cases b with
    | false => exact next I9 (by simpa using q9)
    | true =>
      simp only [if_true] at q9 ⊢
      refine thnF (pe.run _ s9 σ8 H9 _ I9 q9) fun z s10 ⟨yv, H10, I10, r10, acc, hD10, hz10, nx⟩ => ?_
      exact app_ok (X := X.blk s3 H3 scope ce fp) I10 hD10 hz10 r10 fun s11 I11 => next I11 nx
theorem pe_lcH {elt tg iter : Expr} {ifs : List Expr} {own : List (Str × Nat)} {pos : Pos} {wi : TI} {g : TG} {tt : TT} {te : TE} (hot : L2H.HotC X) (hN : X.N.Nodup) (hi : L2H.PIH X tg iter wi) (ok : BlkOk X.N X.env.scope scope own)
    (hg : ∀ (s : Shared) (H : Hp) (C : Addr) (cl : List (Str × Addr)) (fp : List Addr), PG (X.blk s H scope (compEnvC scope cl C X.env) fp) tg g) (ht : ∀ (s : Shared) (H : Hp) (C : Addr) (cl : List (Str × Addr)) (fp : List Addr), PTs (X.blk s H scope (compEnvC scope cl C X.env) fp) ifs tt)
    (he : ∀ (s : Shared) (H : Hp) (C : Addr) (cl : List (Str × Addr)) (fp : List Addr), PE (X.blk s H scope (compEnvC scope cl C X.env) fp) elt te) (hs : ∀ x, foldedSetIterable iter X.env x = pure x := by intro _; rfl) :
    PE X (.ListComp elt [⟨tg, iter, ifs, 0⟩] scope pos) (tLc wi g tt te (own.map (·.2))) := by
  refine ⟨fun pins s σ H Q I h => ?_⟩
  rw [eval_ListComp]
  refine lc_hot hot hN I hi ok hg ht he hs h fun D C s' m H' I' q hn f => ⟨m, hn, fun h'' sb => ?_⟩
  obtain ⟨f0, f1, f2, f3, f4, f5⟩ := f
  exact ⟨.ref D, H', I'.turned (t' := s'.toks) (fun b o hb e => (sb.2 b hb).trans e) f0 f1 f3 f4 f5, rfl, q⟩
theorem ps_setLcH {i : Nat} {y : Str} {py : Pos} {elt tg iter : Expr} {ifs : List Expr} {own : List (Str × Nat)} {pos spos : Pos} {wi : TI} {g : TG} {tt : TT} {te : TE} (hot : L2H.HotC X) (hN : X.N.Nodup) (hy : X.N[i]? = some y) (hyl : X.env.scope.names.lookup y = some .local)
    (hsw : swapsWith (.ListComp elt [⟨tg, iter, ifs, 0⟩] scope pos) (some (.Name y py)) spos.line X.env = pure true) (hi : L2H.PIH X tg iter wi) (ok : BlkOk X.N X.env.scope scope own)
    (hg : ∀ (s : Shared) (H : Hp) (C : Addr) (cl : List (Str × Addr)) (fp : List Addr), PG (X.blk s H scope (compEnvC scope cl C X.env) fp) tg g) (ht : ∀ (s : Shared) (H : Hp) (C : Addr) (cl : List (Str × Addr)) (fp : List Addr), PTs (X.blk s H scope (compEnvC scope cl C X.env) fp) ifs tt)
    (he : ∀ (s : Shared) (H : Hp) (C : Addr) (cl : List (Str × Addr)) (fp : List Addr), PE (X.blk s H scope (compEnvC scope cl C X.env) fp) elt te) (hs : ∀ x, foldedSetIterable iter X.env x = pure x := by intro _; rfl) :
    PS X (.Assign [.Name y py] (.ListComp elt [⟨tg, iter, ifs, 0⟩] scope pos) spos) (tAsg (tLc wi g tt te (own.map (·.2))) (gName i)) := by
  refine ⟨fun pins s σ H D I h => ?_⟩
  rw [exec_Assign_Name_used _ _ _ _ hsw]
  refine wpAny_bind (wpAny_standAt (wpAny_bind ?_))
  show wpAny _ X.A (do let _ ← comprehension (.ListComp elt [⟨tg, iter, ifs, 0⟩] scope pos) scope X.env (firstIterPos [⟨tg, iter, ifs, 0⟩] pos) (newList []) false (eval iter X.env) (some (assign (.Name y py) X.env))) _ _ s
  have h : tLc wi g tt te (own.map (·.2)) σ H (fun x H1 => gName i x σ H1 D.nx) := h
  refine wpAny_bind (thn (lc_hot (Qf := fun _ s' => SP X pins D .next s') hot hN I hi ok hg ht he hs h fun L C s' m H' I' q hn f => ?_) fun _ s' hq => wpAny_pure (wpAny_pure hq))
  show wpAny _ _ (assign (.Name y py) X.env (.ref L)) _ _ _
  refine wpAny_assign_Name (store_ok2 (v := V.ref L) I' hN hy (.inl hyl) rfl (fun s2 I2 ⟨a, sb, ha⟩ => ?_) (.inr hyl))
  obtain ⟨f0, f1, f2, f3, f4, f5⟩ := f
  have haC : C ≠ a := by
    rcases ha with z | z
    · rw [z]; exact f1
    · exact fun e => f4 y a z e.symm
  exact ⟨m, hn.sameBut sb haC, fun h3 sb3 => ⟨_, H', I2.turned (t' := s2.toks) (fun b o hb e => (sb3.2 b hb).trans e) f0 f1 f3 f4 f5, q⟩⟩
/-- an iterable in a suite -/
def QIH (X : Cx) (W : WX) (tg e : Expr) (w : WI) : Prop := L2H.PIH X tg e (cI X.K W w)
theorem pih_imp {X : Cx} {tg e : Expr} {w w' : TI} (h : L2H.PIH X tg e w') (k : ∀ σ H R, w σ H R → w' σ H R) : L2H.PIH X tg e w := ⟨fun pins s σ H R I q => h.run pins s σ H R I (k σ H R q)⟩
end
section
variable {X : Cx} {W : WX} {elt tg iter e : Expr} {ifs : List Expr} {scope : Scope} {own : List (Str × Nat)} {pos : Pos} {wi : WI} {g : WG} {tt : WT} {te : WE} {ws : WA}
theorem qi_range1H (hi : L2H.PIH X tg e (iRng1 (cA X.K W ws))) : QIH X W tg e (iRg1 ws) := pih_imp hi fun σ H R ⟨p, σd, l, Rd, Ed, hH, R0, hw, k, lk⟩ => by
  subst hH
  refine cA_ok R0 hw lk fun xs l1 vs p1 e1 R1 r1 q1 => ?_
  unfold kRg1 at q1
  split at q1
  · obtain ⟨v, rfl, r⟩ := r1.one
    cases r
    exact ⟨_, rfl, q1.1, q1.2.1, k _ l1 _ p1 e1 R1 it_range q1.2.2⟩
  · exact q1.elim
theorem qe_lcH {f : Fresh} (hot : L2H.HotC X) (hN : X.N.Nodup) (hi : QIH X W tg iter wi) (ok : BlkOk X.N X.env.scope scope own)
    (hg : ∀ (s : Shared) (H : Hp) (C : Addr) (cl : List (Str × Addr)) (fp : List Addr), QGv (X.blk s H scope (compEnvC scope cl C X.env) fp) (own.map (·.2)) tg g) (ht : ∀ (s : Shared) (H : Hp) (C : Addr) (cl : List (Str × Addr)) (fp : List Addr), QTs (X.blk s H scope (compEnvC scope cl C X.env) fp) W0 ifs tt)
    (he : ∀ (s : Shared) (H : Hp) (C : Addr) (cl : List (Str × Addr)) (fp : List Addr), QE (X.blk s H scope (compEnvC scope cl C X.env) fp) W0 elt te) (hs : ∀ x, foldedSetIterable iter X.env x = pure x := by intro _; rfl) :
    QE X W (.ListComp elt [⟨tg, iter, ifs, 0⟩] scope pos) (wLc wi g tt te (own.map (·.2)) f) :=
  PE.imp (pe_lcH (own := own) (g := cGv X.K (own.map fun q : Str × Nat => q.2) g) (tt := cT X.K W0 tt) (te := cE X.K W0 te) hot hN hi ok hg ht he hs) fun σ H Q h => lc_ok h
theorem qs_setLcH {f : Fresh} {i : Nat} {y : Str} {py spos : Pos} (hot : L2H.HotC X) (hN : X.N.Nodup) (hy : X.N[i]? = some y) (hyl : X.env.scope.names.lookup y = some .local)
    (hsw : swapsWith (.ListComp elt [⟨tg, iter, ifs, 0⟩] scope pos) (some (.Name y py)) spos.line X.env = pure true) (hi : QIH X W tg iter wi) (ok : BlkOk X.N X.env.scope scope own)
    (hg : ∀ (s : Shared) (H : Hp) (C : Addr) (cl : List (Str × Addr)) (fp : List Addr), QGv (X.blk s H scope (compEnvC scope cl C X.env) fp) (own.map (·.2)) tg g) (ht : ∀ (s : Shared) (H : Hp) (C : Addr) (cl : List (Str × Addr)) (fp : List Addr), QTs (X.blk s H scope (compEnvC scope cl C X.env) fp) W0 ifs tt)
    (he : ∀ (s : Shared) (H : Hp) (C : Addr) (cl : List (Str × Addr)) (fp : List Addr), QE (X.blk s H scope (compEnvC scope cl C X.env) fp) W0 elt te) (hs : ∀ x, foldedSetIterable iter X.env x = pure x := by intro _; rfl) :
    QS X W (.Assign [.Name y py] (.ListComp elt [⟨tg, iter, ifs, 0⟩] scope pos) spos) (wAsg (wLc wi g tt te (own.map (·.2)) f) (gN i)) :=
  PS.imp (ps_setLcH (own := own) (g := cGv X.K (own.map fun q : Str × Nat => q.2) g) (tt := cT X.K W0 tt) (te := cE X.K W0 te) hot hN hy hyl hsw hi ok hg ht he hs) fun D σ H ⟨p, σd, l, Dd, hH, R, hw, k⟩ => by
    subst hH
    exact lc_ok (X := X) (W := W) (cE_ok R hw k.link fun x l1 v p1 e1 R1 r1 q1 => k.nx p1 _ _ l1 e1 (R1.set r1) q1)
end
end QL
set_option Elab.async false
set_option linter.all false
set_option maxRecDepth 100000
set_option maxHeartbeats 4000000
/-! M02: splitting a text into tokens. -/
namespace M02
open PySem L2 QL
def LET : Str := "abcdefghijklmnopqrstuvwxyzABCDEFGHIJKLMNOPQRSTUVWXYZ"
def FIG : Str := "0123456789"
def RUNS : Str := "abcdefghijklmnopqrstuvwxyzABCDEFGHIJKLMNOPQRSTUVWXYZ0123456789"
def MARKS : Str := ⟨#[33, 34, 35, 36, 38, 39, 40, 41, 42, 43, 44, 45, 46, 47, 58, 59, 60, 61, 62, 63, 64, 91, 92, 93, 94, 95, 96, 123, 124, 125, 126, 9]⟩
def al (c : Nat) : Prop := c ∈ RUNS.cps.toList
instance : DecidablePred al := fun c => inferInstanceAs (Decidable (c ∈ RUNS.cps.toList))
theorem runs_eq : RUNS.cps.toList = LET.cps.toList ++ FIG.cps.toList := by decide +kernel
theorem al_iff (c : Nat) : al c ↔ (c ∈ LET.cps.toList ∨ c ∈ FIG.cps.toList) := by unfold al; rw [runs_eq, List.mem_append]
abbrev SL := List (List Nat) × List Nat
def flush (r : List Nat) : List (List Nat) := if r = [] then [] else [r]
def tok (c : Nat) : List (List Nat) := if c = 32 ∨ c = 10 then [] else [[c]]
def step (s : SL) (c : Nat) : SL := if al c then (s.1, s.2 ++ [c]) else (s.1 ++ flush s.2 ++ tok c, [])
def run (s : SL) (cs : List Nat) : SL := cs.foldl step s
def fin (s : SL) : List (List Nat) := s.1 ++ flush s.2
def splitL (cs : List Nat) : List (List Nat) := fin (run ([], []) cs)
theorem run_app (s : SL) (xs ys : List Nat) : run s (xs ++ ys) = run (run s xs) ys := List.foldl_append
theorem run_one (s : SL) (c : Nat) : run s [c] = step s c := rfl
theorem run_pre (T : List (List Nat)) : ∀ (cs : List Nat) (s : SL), run (T ++ s.1, s.2) cs = (T ++ (run s cs).1, (run s cs).2)
  | [], s => rfl
  | c :: r, s => by
    have e : step (T ++ s.1, s.2) c = (T ++ (step s c).1, (step s c).2) := by
      unfold step
      by_cases h : al c
      · simp [h]
      · simp [h, List.append_assoc]
    show run (step (T ++ s.1, s.2) c) r = _
    rw [e, run_pre T r (step s c)]
    rfl
theorem run_sep {c : Nat} (h : ¬ al c) (s : SL) : step s c = (fin s ++ tok c, []) := by unfold step fin; simp [h]
/-- the last run is a tail of what was read -/
theorem run_tail : ∀ (cs : List Nat), ∃ pre, cs = pre ++ (run ([], []) cs).2 := by
  intro cs
  rw [← List.reverse_reverse cs]
  generalize cs.reverse = r
  induction r with
  | nil => exact ⟨[], rfl⟩
  | cons c r ih =>
    obtain ⟨pre, e⟩ := ih
    rw [List.reverse_cons, run_app, run_one]
    by_cases h : al c
    · refine ⟨pre, ?_⟩
      rw [show step (run ([], []) r.reverse) c = ((run ([], []) r.reverse).1, (run ([], []) r.reverse).2 ++ [c]) by unfold step; simp [h]]
      rw [← List.append_assoc, ← e]
    · refine ⟨r.reverse ++ [c], ?_⟩
      rw [run_sep h]
      simp
theorem split_sep {c : Nat} (h : ¬ al c) (xs ys : List Nat) : splitL (xs ++ c :: ys) = splitL xs ++ tok c ++ splitL ys := by
  unfold splitL
  rw [show xs ++ c :: ys = xs ++ ([c] ++ ys) by simp, run_app, run_app, run_one, run_sep h]
  have := run_pre (fin (run ([], []) xs) ++ tok c) ys ([], [])
  rw [List.append_nil] at this
  rw [this]
  unfold fin
  simp
theorem split_nil : splitL [] = [] := rfl
theorem run_al {xs : List Nat} (h : ∀ c ∈ xs, al c) : ∀ s : SL, run s xs = (s.1, s.2 ++ xs) := by
  induction xs with
  | nil => intro s; simp [run]
  | cons c r ih =>
    intro s
    show run (step s c) r = _
    have hc := h c (by simp)
    rw [show step s c = (s.1, s.2 ++ [c]) by unfold step; simp [hc], ih (fun x hx => h x (by simp [hx]))]
    simp
theorem split_al {xs : List Nat} (h : ∀ c ∈ xs, al c) (hn : xs ≠ []) : splitL xs = [xs] := by
  unfold splitL fin
  rw [run_al h]
  simp [flush, hn]
theorem al32 : ¬ al 32 := by decide +kernel
theorem al10 : ¬ al 10 := by decide +kernel
theorem al59 : ¬ al 59 := by decide +kernel
theorem split_blank (n : Nat) : splitL (List.replicate n 32) = [] := by
  induction n with
  | zero => rfl
  | succ n ih =>
    have := split_sep al32 [] (List.replicate n 32)
    rw [List.nil_append] at this
    rw [List.replicate_succ, this, ih]
    rfl
theorem split_semi (n : Nat) : splitL (List.replicate n 59) = List.replicate n [59] := by
  induction n with
  | zero => rfl
  | succ n ih =>
    have := split_sep al59 [] (List.replicate n 59)
    rw [List.nil_append] at this
    rw [List.replicate_succ, this, ih, List.replicate_succ]
    rfl
theorem split_lines (m n : Nat) : splitL (List.replicate m 32 ++ List.replicate n 10) = [] := by
  induction n with
  | zero => rw [List.replicate_zero, List.append_nil, split_blank]
  | succ n ih =>
    have := split_sep al10 (List.replicate m 32 ++ List.replicate n 10) []
    rw [List.replicate_succ', ← List.append_assoc, this, ih]
    rfl
theorem split_times (xs : List Nat) (n : Nat) : splitL (List.replicate n (xs ++ [10])).flatten = (List.replicate n (splitL xs)).flatten := by
  induction n with
  | zero => rfl
  | succ n ih =>
    rw [List.replicate_succ, List.flatten_cons, List.append_assoc, List.singleton_append, split_sep al10, ih, List.replicate_succ, List.flatten_cons]
    simp [tok]
theorem al98 : al 98 := by decide +kernel
theorem al99 : al 99 := by decide +kernel
theorem al97 : al 97 := by decide +kernel
theorem split_bs (n odd : Nat) (h : odd ≤ 1) : splitL ((List.replicate n [98, 10]).flatten ++ List.replicate odd 99) = List.replicate n [98] ++ List.replicate odd [99] := by
  induction n with
  | zero =>
    rcases (by omega : odd = 0 ∨ odd = 1) with e | e <;> subst e
    · rfl
    · exact split_al (by intro c hc; simp at hc; rw [hc]; exact al99) (by simp)
  | succ n ih =>
    rw [List.replicate_succ, List.flatten_cons, List.append_assoc, show ([98, 10] : List Nat) ++ ((List.replicate n [98, 10]).flatten ++ List.replicate odd 99) = [98] ++ 10 :: ((List.replicate n [98, 10]).flatten ++ List.replicate odd 99) by simp, split_sep al10, ih,
      split_al (by intro c hc; simp at hc; rw [hc]; exact al98) (by simp)]
    simp [tok, List.replicate_succ]
/-- texts -/
def toS (c : List Nat) : Str := ⟨c.toArray⟩
def splitS (t : Str) : List Str := (splitL t.cps.toList).map toS
theorem toS_app (a b : List Nat) : toS a ++ toS b = toS (a ++ b) := by
  show (⟨a.toArray ++ b.toArray⟩ : Str) = ⟨(a ++ b).toArray⟩
  simp
theorem toS_of (t : Str) : t = toS t.cps.toList := by cases t; rfl
theorem run_blank {g : List Nat} (h : ∀ x ∈ g, x = 32 ∨ x = 10) : ∀ s : SL, run s g = if g = [] then s else (fin s, []) := by
  induction g with
  | nil => intro s; rfl
  | cons c r ih =>
    intro s
    have hc := h c (by simp)
    have hn : ¬ al c := by rcases hc with e | e <;> rw [e]; exact al32; exact al10
    have ht : tok c = [] := by unfold tok; rw [if_pos hc]
    show run (step s c) r = _
    rw [run_sep hn, ht, List.append_nil, ih (fun x hx => h x (by simp [hx]))]
    by_cases hr : r = [] <;> simp [hr, fin, flush]
theorem piece_run {c t g : List Nat} (ht : ∀ x ∈ t, al x) (hn : t ≠ []) (hg : ∀ x ∈ g, x = 32 ∨ x = 10) {c0 : List Nat} (h0 : ((run ([], []) c).2 ≠ [] ∧ c0 = c ++ [32]) ∨ ((run ([], []) c).2 = [] ∧ c0 = c)) :
    splitL (c0 ++ t ++ g) = splitL c ++ [t] ∧ ((run ([], []) (c0 ++ t ++ g)).2 ≠ [] ↔ g = []) := by
  have e : run ([], []) c0 = (splitL c, []) := by
    rcases h0 with ⟨h, rfl⟩ | ⟨h, rfl⟩
    · rw [run_app, run_one, run_sep al32]
      simp [tok, splitL]
    · unfold splitL fin
      rw [h]
      apply Prod.ext
      · simp [flush]
      · exact h
  have e2 : run ([], []) (c0 ++ t ++ g) = if g = [] then (splitL c, t) else (splitL c ++ [t], []) := by
    rw [run_app, run_app, e, run_al ht, run_blank hg]
    simp [fin, flush, hn]
  constructor
  · show fin (run ([], []) (c0 ++ t ++ g)) = _
    rw [e2]
    by_cases h : g = [] <;> simp [h, fin, flush, hn]
  · rw [e2]
    by_cases h : g = [] <;> simp [h, hn]
theorem piece_mark {c g : List Nat} {m : Nat} (hm : ¬ al m) (h32 : m ≠ 32) (h10 : m ≠ 10) (hg : ∀ x ∈ g, x = 32 ∨ x = 10) :
    splitL (c ++ [m] ++ g) = splitL c ++ [[m]] ∧ (run ([], []) (c ++ [m] ++ g)).2 = [] := by
  have e2 : run ([], []) (c ++ [m] ++ g) = (splitL c ++ [[m]], []) := by
    rw [run_app, run_app, run_one, run_sep hm, run_blank hg]
    by_cases h : g = [] <;> simp [h, fin, flush, tok, h32, h10, splitL]
  exact ⟨by show fin _ = _; rw [e2]; simp [fin, flush], by rw [e2]⟩
theorem marks_ok : ∀ m ∈ MARKS.cps.toList, ¬ al m ∧ m ≠ 32 ∧ m ≠ 10 ∧ m < 128 := by decide +kernel
theorem runs_ok : ∀ m ∈ RUNS.cps.toList, m < 128 := by decide +kernel
theorem runs_len : RUNS.cps.toList.length = 62 := by decide +kernel
theorem marks_len : MARKS.cps.toList.length = 32 := by decide +kernel
theorem toS_len (c : List Nat) : (toS c).length = c.length := by simp [toS, Str.length]
theorem toS_list (c : List Nat) : (toS c).cps.toList = c := by simp [toS]
theorem split_len (c : List Nat) : (splitL c).length ≤ c.length := by
  have h : ∀ (cs : List Nat) (s : SL), (fin (run s cs)).length ≤ (fin s).length + cs.length := by
    intro cs
    induction cs with
    | nil => intro s; exact Nat.le_refl _
    | cons c r ih =>
      intro s
      have := ih (step s c)
      have e : (fin (step s c)).length ≤ (fin s).length + 1 := by
        unfold step
        by_cases h : al c
        · rw [if_pos h]
          unfold fin flush
          by_cases h2 : s.2 = [] <;> simp [h2]
        · rw [if_neg h]
          unfold fin flush tok
          by_cases h2 : s.2 = [] <;> by_cases h3 : c = 32 ∨ c = 10 <;> simp [h2, h3]
      show (fin (run (step s c) r)).length ≤ _
      simp only [List.length_cons]
      omega
  have := h c ([], [])
  simpa [fin, flush, splitL] using this
theorem toS_ne {a b : List Nat} : (toS a == toS b) = decide (a = b) := by
  by_cases h : a = b
  · subst h; simp
  · have : toS a ≠ toS b := fun e => h (by have := congrArg (fun z => z.cps.toList) e; simpa [toS] using this)
    simp [h, this]
theorem run_len (cs : List Nat) : (run ([], []) cs).1.length ≤ cs.length ∧ (run ([], []) cs).2.length ≤ cs.length := by
  constructor
  · have := split_len cs
    unfold splitL fin at this
    rw [List.length_append] at this
    omega
  · obtain ⟨pre, e⟩ := run_tail cs
    have := congrArg List.length e
    rw [List.length_append] at this
    omega
theorem strOk_of {c : List Nat} (h : ∀ x ∈ c, x < 128) : PyData.strOk (toS c) = true := by
  unfold PyData.strOk toS
  rw [Array.all_eq_true_iff_forall_mem]
  intro x hx
  have := h x (by simpa using hx)
  exact decide_eq_true (by omega)
theorem run_ok {cs : List Nat} (h : ∀ x ∈ cs, x < 128) : ∀ x ∈ (run ([], []) cs).2, x < 128 := by
  obtain ⟨pre, e⟩ := run_tail cs
  intro x hx
  exact h x (by rw [e]; exact List.mem_append_right _ hx)
theorem split_ok {cs : List Nat} (h : ∀ x ∈ cs, x < 128) : ∀ t ∈ splitL cs, ∀ x ∈ t, x < 128 := by
  have key : ∀ (r : List Nat) (s : SL), (∀ t ∈ s.1, ∀ x ∈ t, x < 128) → (∀ x ∈ s.2, x < 128) → (∀ x ∈ r, x < 128) → (∀ t ∈ fin (run s r), ∀ x ∈ t, x < 128) := by
    intro r
    induction r with
    | nil =>
      intro s h1 h2 _ t ht
      rcases List.mem_append.mp ht with ht | ht
      · exact h1 t ht
      · unfold flush at ht
        split at ht
        · simp at ht
        · simp at ht
          rw [ht]
          exact h2
    | cons c r ih =>
      intro s h1 h2 h3
      refine ih (step s c) ?_ ?_ (fun x hx => h3 x (by simp [hx]))
      · intro t ht
        unfold step at ht
        split at ht
        · exact h1 t ht
        · rcases List.mem_append.mp ht with ht | ht
          · rcases List.mem_append.mp ht with ht | ht
            · exact h1 t ht
            · unfold flush at ht
              split at ht
              · simp at ht
              · simp at ht
                rw [ht]
                exact h2
          · unfold tok at ht
            split at ht
            · simp at ht
            · simp at ht
              rw [ht]
              intro x hx
              simp at hx
              rw [hx]
              exact h3 c (by simp)
      · intro x hx
        unfold step at hx
        split at hx
        · rcases List.mem_append.mp hx with hx | hx
          · exact h2 x hx
          · simp at hx
            rw [hx]
            exact h3 c (by simp)
        · simp at hx
  exact key cs ([], []) (by simp) (by simp) h
theorem repS_toS (x : List Nat) (n : Nat) : repS (toS x) (n : Int) = toS (List.replicate n x).flatten := by
  unfold repS
  rw [Int.toNat_natCast, toS_list]
  rfl
end M02
set_option Elab.async false
set_option linter.all false
set_option maxRecDepth 100000
set_option maxHeartbeats 4000000
namespace W01
open PySem PySem.Spec PyProof.Rows L2 QL M02
open QL (D P LS SS WE)
local macro_rules | `(tactic| walk_at "q") => `(tactic| simp only [iOr, wNever, wNeverE, oUpper, kM0S, wM0S, iKys, kKeys, oDGet, oDIn, dLook, dkOf, dtOf, wNewK, wNewT, gSubD, kSubD1, kSubD2, wGet, kGet1, kGet2, kGet3, wDs, kDs1, kDs2, mkK, mkT, dPut, dLen, bLenDc, keyD, keyT, oInD, mIndex, kLess, Int.reduceEq, decide_false, Bool.not_false, Bool.not_true, List.reverse_cons, List.reverse_nil, kRaise, wRaise, wTry, dSu, kDel, wXf, kXf, wIsX, kIsX, noXD, wCall0, kCall0, oMulT, oMulS, oCatS, oSlS, bLenS, kOp2, kOp1, kUn, kB, kTru, wTru, truD, kNot, kAnd, kOr, kAndV, kOrV, kNotV, kIfE, kCh1, kCh2, kCh3, kC1, kC2, kCB, kDrop, kIf, kG, kAsg, kAug1, kAug2, kPart, kSl1, kSl2, kSl3, kTupD, kLstD, kIce, wIce, kBM0, kBM1, kBM2, kSub1, kSub2, kLst, kTp, kRg1, kRg2, kRg3, kSt, iSt, kTurn, kFor, kWh, kEl, kTs, kLcT, kLc, kCall, kMs, kIt, kEnd, kEx, callE, wSeq, wAsg, gN, wC, wVar, wOp, wUn, wB, isB, wNot, wAnd, wOr, wAndV, wOrV, wNotV, wIfE, wChain, wNil, wCons, wCB, wNext, wBreak, wCont, wDrop, wRet, wRetN, wIf, gE, gC, gT, wAug, oII, oI0, oB0, oU, oIs, QL.isNon,
  bInt1, bInt2, bLen, bTup, bIsi, tyOf, wFor, iRg1, iRg2, iRg3, iLst, iTp, wCall, wTup, wLst, asDs, wBM, wBM0, seqOf, lstOf, lisOf, freshL, snap, oEq, oIx, oIn, oCat, oCatT, wSl, wPart, wNoPart, oSlL, oSlT, mAppend, mPop, mPopAt, mExtend, mRev, gSubL, wLc, wYes, bSum, bAll, bAny, bMax, bMin, bList,
  startD, List.map_cons, List.map_nil, List.length_cons, List.length_nil, List.replicate, List.cons_append, List.nil_append, List.set_cons_zero, List.set_cons_succ, List.getElem?_cons_zero, List.getElem?_cons_succ, Nat.reduceAdd, Nat.reduceSub, Option.map_some, retN, CMul, CDiv, callP, callB, locsOf, relab, pick, wback, List.nodup_nil, List.getD_cons_zero,
  Int.reducePow, Int.reduceNeg, Int.reduceLT, Int.reduceLE, and_self, or_true, true_or, true_and, and_true, decide_eq_true_eq, reduceIte, List.take_length, List.take_zero, List.take_succ_cons, Int.zero_add, List.length_map, Int.reduceToNat, Nat.lt_irrefl, Bool.not_true, Bool.not_false, Bool.true_eq_false, dOk_cons, dOk_nil, atI_cons1, atI_cons0, seqIx0, ixN0, pos_len, ne_len, nodup1, Option.some.injEq, exists_eq_left', Option.isSome_some, List.eraseIdx_cons_zero, Int.ofNat_zero, Int.natCast_zero, Int.lt_irrefl, if_true, eq_self, wipeD, rangeD_len, List.length_append, D.eqv_int, dOk_int, dOk_non, dOk_ints, Bool.false_eq_true, Nat.reduceLeDiff, if_false, decide_true, Bool.not_eq_true', decide_eq_false_iff_not, List.take_nil])
/-- the reserved words -/
def RES : List Str := ["kind", "column", "op", "want", "example", "sentence", "refuse", "point", "delay", "fold", "machine", "call", "out", "x1", "x2", "x3"]
def SML : Str := "abcdefghijklmnopqrstuvwxyz"
def FGS : Str := "0123456789"
def inRes (z : Str) : Bool := (RES.map D.str).any fun y => D.eqv y (.str z)
def sgn (c : Nat) : Bool := decide (c ∈ SML.cps.toList) || decide (c ∈ FGS.cps.toList)
def spelled (z : Str) : Bool := decide (1 ≤ z.length ∧ z.length ≤ 12) && (decide (z.cps.toList.headD 0 ∈ SML.cps.toList) && z.cps.toList.all sgn)
def named (z : Str) : Bool := spelled z && !inRes z
theorem len_cat (a b : Str) : (a ++ b).length = a.length + b.length := by
  show (a.cps ++ b.cps).size = _
  rw [Array.size_append]
  rfl
theorem len_cutS (z : Str) (lo hi : Option Int) : (cutS z lo hi).length ≤ z.length := by
  unfold cutS Str.length
  simp
  omega
theorem okS {z : Str} (h : ∀ x ∈ z.cps.toList, x < 128) : PyData.strOk z = true := by
  rw [toS_of z]
  exact strOk_of h
theorem cat_list (a b : Str) : (a ++ b).cps.toList = a.cps.toList ++ b.cps.toList := by
  show (a.cps ++ b.cps).toList = _
  rw [Array.toList_append]
theorem num_ok : ∀ n : Nat, n < 1000 → ∀ x ∈ ((toString (n : Int) : String) : Str).cps.toList, x < 128 := by decide +kernel
theorem sml_ok : ∀ x ∈ SML.cps.toList, x < 128 := by decide +kernel
theorem len_num : ∀ n : Nat, n < 1000 → (((toString (n : Int) : String) : Str)).length ≤ 3 := by decide +kernel
def exOf (w : Nat) (z : Str) (n : Int) : Ex := match w with
  | 0 => .own "BadText" ["at"] [.int n]
  | 1 => .own "UnknownWord" ["at"] [.int n]
  | 2 => .own "BadBook" ["name", "reason"] [.int n, .str z]
  | 3 => .own "BadProgram" ["at", "reason"] [.int n, .str z]
  | 4 => .own "BadTask" ["number", "reason"] [.int n, .str z]
  | 5 => .own "TooMany" ["limit"] [.int n]
  | 6 => .own "NotThere" ["number"] [.int n]
  | _ => .own "NothingLeft" ["word"] [.str z]
def XS : List Str := ["BadText", "UnknownWord", "BadBook", "BadProgram", "BadTask", "TooMany", "NotThere", "NothingLeft"]
theorem exOf_own {w : Nat} {z : Str} {n : Int} (h : w < 8) : ∃ x ns xs, exOf w z n = .own x ns xs ∧ x ∈ XS ∧ XS.map (fun c => D.bl (decide (c = x))) = (List.range 8).map fun p => D.bl (decide (p = w)) := by
  have h8 : w = 0 ∨ w = 1 ∨ w = 2 ∨ w = 3 ∨ w = 4 ∨ w = 5 ∨ w = 6 ∨ w = 7 := by omega
  rcases h8 with rfl | rfl | rfl | rfl | rfl | rfl | rfl | rfl <;> exact ⟨_, _, _, rfl, by decide, rfl⟩
theorem eq8 : ∀ w < 8, (D.lst (List.map (fun p => D.bl (decide (p = w))) (List.range 8))).eqv (D.lst (List.map (fun p => D.bl (decide (p = w))) (List.range 8))) = true := by decide +kernel
theorem res_in : ∀ z ∈ RES, named z = false ∧ named (z ++ Str.ofString "a") = true ∧ z.length ≤ 8 := by decide +kernel

def top (i : Nat) : Stmt := PySem.Challenge.pw_columnwright_k01_names_errors_bounds.main.body.getD i (.Pass ⟨0, 0, 0, 0⟩)
abbrev s_is_spelled : Stmt := top 5
abbrev N_is_spelled : List Str := ["text", "sign"]
theorem sc_is_spelled : FnScope N_is_spelled ["text"] (defScope s_is_spelled) := ⟨rfl, rfl, rfl, by decide +kernel, rfl, by decide +kernel, by decide +kernel⟩
abbrev s_is_name : Stmt := top 6
abbrev N_is_name : List Str := ["text"]
theorem sc_is_name : FnScope N_is_name ["text"] (defScope s_is_name) := ⟨rfl, rfl, rfl, by decide +kernel, rfl, by decide +kernel, by decide +kernel⟩
abbrev s_law_mixed : Stmt := top 51
abbrev N_law_mixed : List Str := ["number", "place", "told", "seed", "turn"]
theorem sc_law_mixed : FnScope N_law_mixed ["number", "place"] (defScope s_law_mixed) := ⟨rfl, rfl, rfl, by decide +kernel, rfl, by decide +kernel, by decide +kernel⟩
abbrev s_law_purse : Stmt := top 52
abbrev N_law_purse : List Str := ["script", "purse", "later", "place", "size"]
theorem sc_law_purse : FnScope N_law_purse ["script"] (defScope s_law_purse) := ⟨rfl, rfl, rfl, by decide +kernel, rfl, by decide +kernel, by decide +kernel⟩
abbrev s_law_take : Stmt := top 53
abbrev N_law_take : List Str := ["purse", "many", "told"]
theorem sc_law_take : FnScope N_law_take ["purse", "many"] (defScope s_law_take) := ⟨rfl, rfl, rfl, by decide +kernel, rfl, by decide +kernel, by decide +kernel⟩
abbrev s_law_name : Stmt := top 54
abbrev N_law_name : List Str := ["purse", "number", "text", "turn"]
theorem sc_law_name : FnScope N_law_name ["purse", "number"] (defScope s_law_name) := ⟨rfl, rfl, rfl, by decide +kernel, rfl, by decide +kernel, by decide +kernel⟩
abbrev s_law_reserved : Stmt := top 55
abbrev N_law_reserved : List Str := []
theorem sc_law_reserved : FnScope N_law_reserved [] (defScope s_law_reserved) := ⟨rfl, rfl, rfl, by decide +kernel, rfl, by decide +kernel, by decide +kernel⟩
abbrev s_law_named : Stmt := top 56
abbrev N_law_named : List Str := ["text", "small", "sign"]
theorem sc_law_named : FnScope N_law_named ["text"] (defScope s_law_named) := ⟨rfl, rfl, rfl, by decide +kernel, rfl, by decide +kernel, by decide +kernel⟩
abbrev s_law_text : Stmt := top 57
abbrev N_law_text : List Str := ["purse", "signs", "text", "turn"]
theorem sc_law_text : FnScope N_law_text ["purse"] (defScope s_law_text) := ⟨rfl, rfl, rfl, by decide +kernel, rfl, by decide +kernel, by decide +kernel⟩
abbrev s_law_known : Stmt := top 58
abbrev N_law_known : List Str := ["purse", "word", "pick"]
theorem sc_law_known : FnScope N_law_known ["purse"] (defScope s_law_known) := ⟨rfl, rfl, rfl, by decide +kernel, rfl, by decide +kernel, by decide +kernel⟩
abbrev s_law_kin : Stmt := top 59
abbrev N_law_kin : List Str := ["error"]
theorem sc_law_kin : FnScope N_law_kin ["error"] (defScope s_law_kin) := ⟨rfl, rfl, rfl, by decide +kernel, rfl, by decide +kernel, by decide +kernel⟩
abbrev s_law_raised : Stmt := top 60
abbrev N_law_raised : List Str := ["which", "reason", "number"]
theorem sc_law_raised : FnScope N_law_raised ["which", "reason", "number"] (defScope s_law_raised) := ⟨rfl, rfl, rfl, by decide +kernel, rfl, by decide +kernel, by decide +kernel⟩
abbrev s_law_kept : Stmt := top 61
abbrev N_law_kept : List Str := ["which", "error", "reason", "number"]
theorem sc_law_kept : FnScope N_law_kept ["which", "error", "reason", "number"] (defScope s_law_kept) := ⟨rfl, rfl, rfl, by decide +kernel, rfl, by decide +kernel, by decide +kernel⟩
abbrev s_law_caught : Stmt := top 62
abbrev N_law_caught : List Str := ["which", "reason", "number", "error", "kin", "due", "place"]
theorem sc_law_caught : FnScope N_law_caught ["which", "reason", "number"] (defScope s_law_caught) := ⟨rfl, rfl, rfl, by decide +kernel, rfl, by decide +kernel, by decide +kernel⟩
abbrev s_law_bounds : Stmt := top 63
abbrev N_law_bounds : List Str := ["told", "due"]
theorem sc_law_bounds : FnScope N_law_bounds [] (defScope s_law_bounds) := ⟨rfl, rfl, rfl, by decide +kernel, rfl, by decide +kernel, by decide +kernel⟩
abbrev s_law : Stmt := top 64
abbrev N_law : List Str := ["script", "purse", "turn", "text", "told", "word", "which"]
theorem sc_law : FnScope N_law ["script"] (defScope s_law) := ⟨rfl, rfl, rfl, by decide +kernel, rfl, by decide +kernel, by decide +kernel⟩
structure Bt (mg : Str → Option Value) : Prop where
  ValueError : mg "ValueError" = none
  all : mg "all" = none
  bool : mg "bool" = none
  int : mg "int" = none
  isinstance : mg "isinstance" = none
  len : mg "len" = none
  range : mg "range" = none
  str : mg "str" = none
structure Mg (K : PySem.W.Frag) (mg : Str → Option Value) : Prop where
  FIGURES : ∃ u, mg "FIGURES" = some u ∧ RelV (.str "0123456789") u
  LONGEST : ∃ u, mg "LONGEST" = some u ∧ RelV (.int 12) u
  MOST_COLUMNS : ∃ u, mg "MOST_COLUMNS" = some u ∧ RelV (.int 3) u
  MOST_CORPUS : ∃ u, mg "MOST_CORPUS" = some u ∧ RelV (.int 8) u
  MOST_EXAMPLES : ∃ u, mg "MOST_EXAMPLES" = some u ∧ RelV (.int 8) u
  MOST_INLINED : ∃ u, mg "MOST_INLINED" = some u ∧ RelV (.int 400) u
  MOST_JOINED : ∃ u, mg "MOST_JOINED" = some u ∧ RelV (.int 400) u
  MOST_KINDS : ∃ u, mg "MOST_KINDS" = some u ∧ RelV (.int 6) u
  MOST_LENGTH : ∃ u, mg "MOST_LENGTH" = some u ∧ RelV (.int 8) u
  MOST_LETTERS : ∃ u, mg "MOST_LETTERS" = some u ∧ RelV (.int 24) u
  MOST_LIMIT : ∃ u, mg "MOST_LIMIT" = some u ∧ RelV (.int 24) u
  MOST_LISTED : ∃ u, mg "MOST_LISTED" = some u ∧ RelV (.int 2000) u
  MOST_LOTS : ∃ u, mg "MOST_LOTS" = some u ∧ RelV (.int 200) u
  MOST_NESTED : ∃ u, mg "MOST_NESTED" = some u ∧ RelV (.int 50) u
  MOST_OPENED : ∃ u, mg "MOST_OPENED" = some u ∧ RelV (.int 40) u
  MOST_OPS : ∃ u, mg "MOST_OPS" = some u ∧ RelV (.int 16) u
  MOST_PAIRS : ∃ u, mg "MOST_PAIRS" = some u ∧ RelV (.int 4000) u
  MOST_PAPER : ∃ u, mg "MOST_PAPER" = some u ∧ RelV (.int 200000) u
  MOST_PATTERNS : ∃ u, mg "MOST_PATTERNS" = some u ∧ RelV (.int 2000) u
  MOST_PERSONS : ∃ u, mg "MOST_PERSONS" = some u ∧ RelV (.int 4) u
  MOST_PRICE : ∃ u, mg "MOST_PRICE" = some u ∧ RelV (.int 9) u
  MOST_PROBES : ∃ u, mg "MOST_PROBES" = some u ∧ RelV (.int 64) u
  MOST_REFUSED : ∃ u, mg "MOST_REFUSED" = some u ∧ RelV (.int 8) u
  MOST_ROWS : ∃ u, mg "MOST_ROWS" = some u ∧ RelV (.int 36) u
  MOST_SENTENCES : ∃ u, mg "MOST_SENTENCES" = some u ∧ RelV (.int 4) u
  MOST_SKIPPED : ∃ u, mg "MOST_SKIPPED" = some u ∧ RelV (.int 64) u
  MOST_STATES : ∃ u, mg "MOST_STATES" = some u ∧ RelV (.int 6) u
  MOST_SYMBOLS : ∃ u, mg "MOST_SYMBOLS" = some u ∧ RelV (.int 24) u
  MOST_TAKEN : ∃ u, mg "MOST_TAKEN" = some u ∧ RelV (.int 3) u
  MOST_TEXT : ∃ u, mg "MOST_TEXT" = some u ∧ RelV (.int 100000) u
  MOST_THINGS : ∃ u, mg "MOST_THINGS" = some u ∧ RelV (.int 8) u
  MOST_TUPLES : ∃ u, mg "MOST_TUPLES" = some u ∧ RelV (.int 2000) u
  MOST_WAYS : ∃ u, mg "MOST_WAYS" = some u ∧ RelV (.int 6000) u
  MOST_WEIGHT : ∃ u, mg "MOST_WEIGHT" = some u ∧ RelV (.int 9) u
  MOST_WORDS : ∃ u, mg "MOST_WORDS" = some u ∧ RelV (.int 6) u
  RESERVED : ∃ u, mg "RESERVED" = some u ∧ ∃ v, RelV v u ∧ ∀ p, RD K p (.ktu [(.str "kind"), (.str "column"), (.str "op"), (.str "want"), (.str "example"), (.str "sentence"), (.str "refuse"), (.str "point"), (.str "delay"), (.str "fold"), (.str "machine"), (.str "call"), (.str "out"), (.str "x1"), (.str "x2"), (.str "x3")]) v
  SMALL : ∃ u, mg "SMALL" = some u ∧ RelV (.str "abcdefghijklmnopqrstuvwxyz") u
structure Rs (P : Program) (w : World) (K : PySem.W.Frag) (mg : Str → Option Value) (base : Heap) : Prop where
  BadBook : MkQ P w K mg base 1 "BadBook" ["reason", "name"]
  BadProgram : MkQ P w K mg base 1 "BadProgram" ["reason", "at"]
  BadTask : MkQ P w K mg base 1 "BadTask" ["reason", "number"]
  BadText : MkQ P w K mg base 1 "BadText" ["at"]
  NotThere : MkQ P w K mg base 1 "NotThere" ["number"]
  NothingLeft : MkQ P w K mg base 1 "NothingLeft" ["word"]
  TooMany : MkQ P w K mg base 1 "TooMany" ["limit"]
  UnknownWord : MkQ P w K mg base 1 "UnknownWord" ["at"]
def tab_ColumnError (y : Str) : Option Bool := ([("BadBook", true), ("BadProgram", true), ("BadTask", true), ("BadText", true), ("NotThere", true), ("NothingLeft", true), ("TooMany", true), ("UnknownWord", true)] : List (Str × Bool)).lookup y
def isa_BadBook (y : Str) : Bool := decide (y ∈ (["BadBook"] : List Str))
def isa_BadProgram (y : Str) : Bool := decide (y ∈ (["BadProgram"] : List Str))
def isa_BadTask (y : Str) : Bool := decide (y ∈ (["BadTask"] : List Str))
def isa_BadText (y : Str) : Bool := decide (y ∈ (["BadText"] : List Str))
def isa_NotThere (y : Str) : Bool := decide (y ∈ (["NotThere"] : List Str))
def isa_NothingLeft (y : Str) : Bool := decide (y ∈ (["NothingLeft"] : List Str))
def isa_TooMany (y : Str) : Bool := decide (y ∈ (["TooMany"] : List Str))
def isa_UnknownWord (y : Str) : Bool := decide (y ∈ (["UnknownWord"] : List Str))
def isa_ValueError (y : Str) : Bool := decide (y ∈ (["BadBook", "BadProgram", "BadTask", "BadText", "NotThere", "NothingLeft", "TooMany", "UnknownWord"] : List Str))
structure Ys (K : PySem.W.Frag) (mg : Str → Option Value) : Prop where
  cm_BadBook : mg "BadBook" = some (.ref (clsA K "BadBook"))
  cm_BadProgram : mg "BadProgram" = some (.ref (clsA K "BadProgram"))
  cm_BadTask : mg "BadTask" = some (.ref (clsA K "BadTask"))
  cm_BadText : mg "BadText" = some (.ref (clsA K "BadText"))
  cm_ColumnError : mg "ColumnError" = some (.ref (clsA K "ColumnError"))
  cm_NotThere : mg "NotThere" = some (.ref (clsA K "NotThere"))
  cm_NothingLeft : mg "NothingLeft" = some (.ref (clsA K "NothingLeft"))
  cm_TooMany : mg "TooMany" = some (.ref (clsA K "TooMany"))
  cm_UnknownWord : mg "UnknownWord" = some (.ref (clsA K "UnknownWord"))
  ex_ColumnError : ∀ y b, tab_ColumnError y = some b → PySem.W.exmOne K (.ref (clsA K y)) (.ref (clsA K "ColumnError")) = some b
  xf_at : ∀ y ∈ (["BadProgram", "BadText", "UnknownWord"] : List Str), XfC K (clsA K y) ∧ PySem.W.findIn K (.ref (clsA K y)) "at" = some none
  xf_limit : ∀ y ∈ (["TooMany"] : List Str), XfC K (clsA K y) ∧ PySem.W.findIn K (.ref (clsA K y)) "limit" = some none
  xf_name : ∀ y ∈ (["BadBook"] : List Str), XfC K (clsA K y) ∧ PySem.W.findIn K (.ref (clsA K y)) "name" = some none
  xf_number : ∀ y ∈ (["BadTask", "NotThere"] : List Str), XfC K (clsA K y) ∧ PySem.W.findIn K (.ref (clsA K y)) "number" = some none
  xf_reason : ∀ y ∈ (["BadBook", "BadProgram", "BadTask"] : List Str), XfC K (clsA K y) ∧ PySem.W.findIn K (.ref (clsA K y)) "reason" = some none
  xf_word : ∀ y ∈ (["NothingLeft"] : List Str), XfC K (clsA K y) ∧ PySem.W.findIn K (.ref (clsA K y)) "word" = some none
  is_BadBook : ∀ y ∈ (["BadBook", "BadProgram", "BadTask", "BadText", "NotThere", "NothingLeft", "TooMany", "UnknownWord"] : List Str), ExcC K (clsA K y) ∧ PySem.W.kitOne K (.ref (clsA K y)) (.ref (clsA K "BadBook")) = some (isa_BadBook y)
  is_BadProgram : ∀ y ∈ (["BadBook", "BadProgram", "BadTask", "BadText", "NotThere", "NothingLeft", "TooMany", "UnknownWord"] : List Str), ExcC K (clsA K y) ∧ PySem.W.kitOne K (.ref (clsA K y)) (.ref (clsA K "BadProgram")) = some (isa_BadProgram y)
  is_BadTask : ∀ y ∈ (["BadBook", "BadProgram", "BadTask", "BadText", "NotThere", "NothingLeft", "TooMany", "UnknownWord"] : List Str), ExcC K (clsA K y) ∧ PySem.W.kitOne K (.ref (clsA K y)) (.ref (clsA K "BadTask")) = some (isa_BadTask y)
  is_BadText : ∀ y ∈ (["BadBook", "BadProgram", "BadTask", "BadText", "NotThere", "NothingLeft", "TooMany", "UnknownWord"] : List Str), ExcC K (clsA K y) ∧ PySem.W.kitOne K (.ref (clsA K y)) (.ref (clsA K "BadText")) = some (isa_BadText y)
  is_NotThere : ∀ y ∈ (["BadBook", "BadProgram", "BadTask", "BadText", "NotThere", "NothingLeft", "TooMany", "UnknownWord"] : List Str), ExcC K (clsA K y) ∧ PySem.W.kitOne K (.ref (clsA K y)) (.ref (clsA K "NotThere")) = some (isa_NotThere y)
  is_NothingLeft : ∀ y ∈ (["BadBook", "BadProgram", "BadTask", "BadText", "NotThere", "NothingLeft", "TooMany", "UnknownWord"] : List Str), ExcC K (clsA K y) ∧ PySem.W.kitOne K (.ref (clsA K y)) (.ref (clsA K "NothingLeft")) = some (isa_NothingLeft y)
  is_TooMany : ∀ y ∈ (["BadBook", "BadProgram", "BadTask", "BadText", "NotThere", "NothingLeft", "TooMany", "UnknownWord"] : List Str), ExcC K (clsA K y) ∧ PySem.W.kitOne K (.ref (clsA K y)) (.ref (clsA K "TooMany")) = some (isa_TooMany y)
  is_UnknownWord : ∀ y ∈ (["BadBook", "BadProgram", "BadTask", "BadText", "NotThere", "NothingLeft", "TooMany", "UnknownWord"] : List Str), ExcC K (clsA K y) ∧ PySem.W.kitOne K (.ref (clsA K y)) (.ref (clsA K "UnknownWord")) = some (isa_UnknownWord y)
  is_ValueError : ∀ y ∈ (["BadBook", "BadProgram", "BadTask", "BadText", "NotThere", "NothingLeft", "TooMany", "UnknownWord"] : List Str), ExcC K (clsA K y) ∧ PySem.W.kitOne K (.ref (clsA K y)) (.type "ValueError") = some (isa_ValueError y)

def fs_is_spelled : FS := fun vs l Q _ => ∃ z : Str, vs = [.d (.str z)] ∧ l = [] ∧ z.length ≤ 1000 ∧ Q (.d (.bl (spelled z))) []

def fs_is_name : FS := fun vs l Q _ => ∃ z : Str, vs = [.d (.str z)] ∧ l = [] ∧ z.length ≤ 1000 ∧ Q (.d (.bl (named z))) []

def fs_law_mixed : FS := fun vs l Q _ => ∃ a b : Int, vs = [.d (.int a), .d (.int b)] ∧ l = [] ∧ ∀ r : Int, 0 ≤ r → Q (.d (.int r)) []

def fs_law_purse : FS := fun vs l Q _ => ∃ ns : List Int, vs = [.d (.scr (ns.map .int))] ∧ l = [] ∧ ns.length ≤ 63 ∧ ∀ ns' : List Int, ns'.length ≤ 1000 → (∀ n ∈ ns', 0 ≤ n) → Q (.loc 0) [.lst (ns'.map .int)]

def Pur (ns : List Int) : Prop := ns.length ≤ 1000 ∧ ∀ n ∈ ns, 0 ≤ n
def fs_law_take : FS := fun vs l Q _ => ∃ (ns : List Int) (m : Int), vs = [.loc 0, .d (.int m)] ∧ l = [.lst (ns.map .int)] ∧ Pur ns ∧ 1 ≤ m ∧ m < 1073741824 ∧
  ∀ (r : Int) (ns' : List Int), 0 ≤ r → r < m → Pur ns' → Q (.d (.int r)) [.lst (ns'.map .int)]

def fs_law_name : FS := fun vs l Q _ => ∃ (ns : List Int) (n : Nat), vs = [.loc 0, .d (.int n)] ∧ l = [.lst (ns.map .int)] ∧ Pur ns ∧ n < 1000 ∧ ∀ (z : Str) (ns' : List Int), z.length ≤ 8 → PyData.strOk z = true → Pur ns' → Q (.d (.str z)) [.lst (ns'.map .int)]

def fs_law_reserved : FS := fun vs l Q _ => vs = [] ∧ l = [] ∧ Q (.d (.tup (RES.map .str))) []

def fs_law_named : FS := fun vs l Q _ => ∃ z : Str, vs = [.d (.str z)] ∧ l = [] ∧ z.length ≤ 1000 ∧ Q (.d (.bl (named z))) []

def fs_law_text : FS := fun vs l Q _ => ∃ (ns : List Int), vs = [.loc 0] ∧ l = [.lst (ns.map .int)] ∧ Pur ns ∧ ∀ (z : Str) (ns' : List Int), z.length ≤ 100 → Pur ns' → Q (.d (.str z)) [.lst (ns'.map .int)]

def fs_law_known : FS := fun vs l Q _ => ∃ (ns : List Int), vs = [.loc 0] ∧ l = [.lst (ns.map .int)] ∧ Pur ns ∧ ∀ (z : Str) (ns' : List Int), z.length ≤ 100 → Pur ns' → Q (.d (.str z)) [.lst (ns'.map .int)]

def fs_law_kin (ea : Addr) (ec : Value) (ed : Option Addr) : FS := fun vs l Q _ => ∃ y ns xs, vs = [.exc ea ec ed (.own y ns xs)] ∧ l = [] ∧ y ∈ XS ∧ Q (.d (.lst (XS.map fun c => .bl (decide (c = y))))) []

def fs_law_raised : FS := fun vs l _ E => ∃ (w : Nat) (z : Str) (n : Int), vs = [.d (.int w), .d (.str z), .d (.int n)] ∧ l = [] ∧ w < 8 ∧ ∀ l', E (exOf w z n) l'

def fs_law_kept (ea : Addr) (ec : Value) (ed : Option Addr) : FS := fun vs l Q _ => ∃ (w : Nat) (z : Str) (n : Int), vs = [.d (.int w), .exc ea ec ed (exOf w z n), .d (.str z), .d (.int n)] ∧ l = [] ∧ w < 8 ∧ PyData.strOk z = true ∧ Q (.d (.bl true)) []

def fs_law_caught : FS := fun vs l Q _ => ∃ (w : Nat) (z : Str) (n : Int), vs = [.d (.int w), .d (.str z), .d (.int n)] ∧ l = [] ∧ w < 8 ∧ PyData.strOk z = true ∧ Q (.d (.bl true)) []

def fs_law_bounds : FS := fun vs l Q _ => vs = [] ∧ l = [] ∧ Q (.d (.bl true)) []

def fs_law : FS := fun vs l Q _ => ∃ ns : List Int, vs = [.d (.scr (ns.map .int))] ∧ l = [] ∧ ns.length ≤ 63 ∧ Q (.d (.bl true)) []
theorem fs_end (ns : List Int) (h : ns.length ≤ 63) : fs_law [.d (.scr (ns.map .int))] [] endD endX := ⟨ns, rfl, rfl, h, rfl⟩
section
variable {P : Program} {w : World} {K : PySem.W.Frag} {mg : Str → Option Value} {base : Heap}
structure Cs (P : Program) (w : World) (K : PySem.W.Frag) (mg : Str → Option Value) (base : Heap) : Prop where
  u : True
theorem ok_is_spelled {f : Addr} {fd : FuncData} (F : Fun K "is_spelled" "is_spelled" s_is_spelled f fd) (B : Bt mg) (M : Mg K mg) : FnOk P w K mg base (L2N.CX P w) 1 f fd ["text"] (spQ K 1 fs_is_spelled) := by
  have nd := sc_is_spelled.nd
  refine fun_q (k := 0) F sc_is_spelled 1 rfl (fun cdv A outer s H E hr tk => (qss_cons (qs_if (QW.qt (qw_or (qt_not (qt_chain (op_le) ref_B0 (op_le) ref_B0 qe_int (qe_callB call_len_str ref_lenS (by rfl) B.len (by decide +kernel) (qa_cons (qe_var 0) qa_nil)) (qe_glob (by rfl) M.LONGEST (fun _ => RD.int _)))) (qw_or1 (qt_cmp (op_notIn_str) ref_notInC (qe_ix (qe_var 0) qe_int (fun _ _ => rfl)) (qe_glob (by rfl) M.SMALL (fun _ => RD.str _)) (by rfl))))) (qss_one (qs_ret qe_bl)) qss_nil)
    (qss_one (qs_ret (qe_callB (cr_all rfl) ref_all (by rfl) B.all (by decide +kernel) (qa_cons (qe_lc (f := .frz) (own := [("sign", 1)]) rfl nd (qi_str (pi_str (qe_var 0))) (blkOk_by (N := N_is_spelled) (sc := defScope s_is_spelled) (by decide +kernel)) (fun _ _ _ _ _ => (qgv_name (i := 1) (by decide) nd rfl (by first | exact Or.inl rfl | exact Or.inr rfl))) (fun _ _ _ _ _ => qts_nil) (fun _ _ _ _ _ => (qe_or (qe_cmp (op_in_str) ref_inC (qe_var 1) (qe_glob (by rfl) M.SMALL (fun _ => RD.str _)) (by rfl)) (qe_one (qe_cmp (op_in_str) ref_inC (qe_var 1) (qe_glob (by rfl) M.FIGURES (fun _ => RD.str _)) (by rfl)))))) qa_nil)))))) (fun ds l Qd Ed hl h => ?_)
  obtain ⟨z, rfl, rfl, hz, q⟩ := h
  have hsz : z.length ≤ sizeLine := Nat.le_trans hz (by decide)
  have hll : z.length = z.cps.toList.length := by unfold Str.length; simp
  walk_at "q"
  refine ⟨hsz, ?_⟩
  split
  · rename_i h1
    split
    · rename_i h2
      have e : spelled z = false := by
        unfold spelled
        rw [decide_eq_false (by omega)]
        rfl
      rw [e] at q
      exact q
    · rename_i h2
      obtain ⟨c, r, hc⟩ : ∃ c r, z.cps.toList = c :: r := by
        cases h : z.cps.toList with
        | nil => rw [h] at hll; simp at hll; omega
        | cons c r => exact ⟨c, r, rfl⟩
      refine ⟨hsz, c, by rw [hc]; exact atI_cons0, c, rfl, ?_⟩
      have e : spelled z = (decide (c ∈ SML.cps.toList) && z.cps.toList.all sgn) := by
        unfold spelled
        rw [decide_eq_true (by omega), hc]
        rfl
      rw [e] at q
      walk_at "q"
      have f1 : (Str.ofString "abcdefghijklmnopqrstuvwxyz") = SML := rfl
      have f2 : (Str.ofString "0123456789") = FGS := rfl
      rw [f1, Bool.xor_true]
      split
      · rename_i h3
        rw [Bool.not_eq_true'] at h3
        rw [h3] at q
        exact q
      · rename_i h3
        rw [Bool.not_eq_true', Bool.not_eq_false] at h3
        rw [h3, Bool.true_and] at q
        refine lcI (fun i acc l => acc = ((z.cps.toList.take i).map sgn).map .bl ∧ l = []) (by unfold signsD; rw [List.length_map, ← hll]; exact Nat.lt_of_le_of_lt hz (by decide)) ⟨rfl, rfl⟩ ?_ ?_
        · rintro i x acc l hx ha ⟨rfl, rfl⟩
          unfold signsD at hx ⊢
          rw [List.getElem?_map] at hx
          obtain ⟨a, ha1, rfl⟩ := Option.map_eq_some_iff.mp hx
          have hi := (List.getElem?_eq_some_iff.mp ha1).1
          have nx : ∀ b, b = sgn a → ((List.map D.bl (List.map sgn (List.take i z.cps.toList)) ++ [D.bl b]).length = i + 1 ∧ i + 1 ≤ z.cps.toList.length) ∧ List.map D.bl (List.map sgn (List.take i z.cps.toList)) ++ [D.bl b] = List.map D.bl (List.map sgn (List.take (i + 1) z.cps.toList)) := fun b hb => by
            subst hb
            refine ⟨⟨by rw [List.length_append, ha]; rfl, by omega⟩, ?_⟩
            rw [List.take_add_one, ha1, Option.toList_some, List.map_append, List.map_append]
            rfl
          walk_at "q"
          refine ⟨a, rfl, ?_⟩
          rw [Bool.xor_false]
          walk_at "q"
          split
          · rename_i h4
            have h4' : sgn a = true := by unfold sgn; rw [decide_eq_true h4, Bool.true_or]
            have := nx true h4'.symm
            simpa using this
          · rename_i h4
            refine ⟨a, rfl, ?_⟩
            rw [Bool.xor_false]
            have h5 : decide (a ∈ FGS.cps.toList) = sgn a := by unfold sgn; rw [decide_eq_false h4, Bool.false_or]
            exact ⟨nx _ h5 |>.1, nx _ h5 |>.2, rfl⟩
        · rintro acc l ha ⟨rfl, rfl⟩
          walk_at "q"
          refine ⟨z.cps.toList.map sgn, ?_, ?_⟩
          · unfold signsD
            rw [List.length_map, List.take_length]
          · rw [List.all_map]
            exact q
  · rename_i h1
    have e : spelled z = false := by
      unfold spelled
      rw [decide_eq_false (by omega)]
      rfl
    rw [e] at q
    exact q
structure Cs_is_name (P : Program) (w : World) (K : PySem.W.Frag) (mg : Str → Option Value) (base : Heap) : Prop where
  is_spelled : CalQ P w K mg base 1 "is_spelled" 1 fs_is_spelled
theorem ok_is_name {f : Addr} {fd : FuncData} (F : Fun K "is_name" "is_name" s_is_name f fd) (B : Bt mg) (C : Cs_is_name P w K mg base) (M : Mg K mg) : FnOk P w K mg base (L2N.CX P w) 2 f fd ["text"] (spQ K 1 fs_is_name) := by
  have nd := sc_is_name.nd
  refine fun_q (k := 1) F sc_is_name 1 rfl (fun cdv A outer s H E hr tk => (qss_one (qs_ret (qe_and (qe_call C.is_spelled hr (by decide) tk (by rfl) (qa_cons (qe_var 0) qa_nil)) (qe_one (qe_cmp (op_notIn_seq) ref_in (qe_var 0) (qe_globT (by rfl) M.RESERVED) (by rfl))))))) (fun ds l Qd Ed hl h => ?_)
  obtain ⟨z, rfl, rfl, hz, q⟩ := h
  walk_at "q"
  refine ⟨z, rfl, rfl, hz, ?_⟩
  unfold named at q
  walk_at "q"
  cases hs : spelled z with
  | false =>
    rw [hs] at q
    simp only [Bool.false_eq_true, if_false]
    exact q
  | true =>
    rw [hs, Bool.true_and] at q
    simp only [if_true]
    exact ⟨rfl, by decide, q⟩
theorem ok_law_mixed {f : Addr} {fd : FuncData} (F : Fun K "_law_mixed" "_law_mixed" s_law_mixed f fd) (B : Bt mg) : FnOk P w K mg base (L2N.CX P w) 1 f fd ["number", "place"] (spQ K 2 fs_law_mixed) := by
  have nd := sc_law_mixed.nd
  refine fun_q (k := 0) F sc_law_mixed 2 rfl (fun cdv A outer s H E hr tk => (qss_cons (qs_set (i := 2) nd rfl (by first | exact Or.inl rfl | exact Or.inr rfl) qe_int)
    (qss_cons (qs_set (i := 3) nd rfl (by first | exact Or.inl rfl | exact Or.inr rfl) (qe_op op_mod ref_II (qe_callTy call_int1 ref_int (by rfl) B.int (by decide +kernel) (qa_cons (qe_op op_add ref_I0 (qe_op op_add ref_I0 (qe_op op_mul ref_II (qe_var 0) qe_int) (qe_op op_mul ref_II (qe_var 1) qe_int)) qe_int) qa_nil)) qe_int))
    (qss_cons (qs_for (passes_of rfl) rfl (qi_range1 (pi_range1 (by rfl) B.range (qa_cons qe_int qa_nil))) (qg_name (i := 4) nd rfl (by first | exact Or.inl rfl | exact Or.inr rfl)) (qss_cons (qs_set (i := 3) nd rfl (by first | exact Or.inl rfl | exact Or.inr rfl) (qe_op op_mod ref_II (qe_callTy call_int1 ref_int (by rfl) B.int (by decide +kernel) (qa_cons (qe_op op_add ref_I0 (qe_op op_add ref_I0 (qe_op op_mul ref_II (qe_var 3) qe_int) (qe_op op_mul ref_II (qe_var 4) qe_int)) qe_int) qa_nil)) qe_int))
    (qss_one (qs_set (i := 2) nd rfl (by first | exact Or.inl rfl | exact Or.inr rfl) (qe_op op_add ref_I0 (qe_op op_mul ref_II (qe_var 2) qe_int) (qe_op op_mod ref_II (qe_callTy call_int1 ref_int (by rfl) B.int (by decide +kernel) (qa_cons (qe_op op_add ref_I0 (qe_op op_mul ref_II (qe_var 3) (qe_var 3)) (qe_op op_mul ref_II (qe_var 4) qe_int)) qa_nil)) qe_int))))))
    (qss_one (qs_ret (qe_var 2))))))) (fun ds l Qd Ed hl h => ?_)
  obtain ⟨a, b, rfl, rfl, q⟩ := h
  walk_at "q"
  refine loopR (fun i σ l => ∃ t s x, σ = [some (.d (.int a)), some (.d (.int b)), some (.d (.int t)), some (.d (.int s)), x] ∧ l = [] ∧ 0 ≤ t ∧ 0 ≤ s ∧ s < 2147483647) ?_ ?_ ?_
  · exact ⟨0, _, _, rfl, rfl, by omega, by omega, by omega⟩
  · rintro i σ l hi ⟨t, s, x, rfl, rfl, h1, h2, h3⟩
    walk_at "q"
    have m1 := Int.emod_nonneg (s * 48271 + (i : Int) * 69621 + 12345) (show (2147483647 : Int) ≠ 0 by decide)
    have m2 := Int.emod_lt_of_pos (s * 48271 + (i : Int) * 69621 + 12345) (show (0 : Int) < 2147483647 by decide)
    generalize (s * 48271 + (i : Int) * 69621 + 12345) % 2147483647 = m at *
    have m3 := Int.emod_nonneg (m * m + (i : Int) * 7) (show (2147483647 : Int) ≠ 0 by decide)
    exact ⟨.inl ⟨by omega, by omega⟩, _, _, _, rfl, by omega, m1, m2⟩
  · rintro σ l ⟨t, s, x, rfl, rfl, h1, h2, h3⟩
    walk_at "q"
    exact q _ h1
structure Cs_law_purse (P : Program) (w : World) (K : PySem.W.Frag) (mg : Str → Option Value) (base : Heap) : Prop where
  law_mixed : CalQ P w K mg base 1 "_law_mixed" 2 fs_law_mixed
theorem ok_law_purse {f : Addr} {fd : FuncData} (F : Fun K "_law_purse" "_law_purse" s_law_purse f fd) (B : Bt mg) (C : Cs_law_purse P w K mg base) : FnOk P w K mg base (L2N.CX P w) 2 f fd ["script"] (spQ K 1 fs_law_purse) := by
  have nd := sc_law_purse.nd
  refine fun_q (k := 1) F sc_law_purse 1 rfl (fun cdv A outer s H E hr tk => (qss_cons (qs_set (i := 1) nd rfl (by first | exact Or.inl rfl | exact Or.inr rfl) (qe_lst (f := .cell) qa_nil))
    (qss_cons (qs_set (i := 2) nd rfl (by first | exact Or.inl rfl | exact Or.inr rfl) (qe_lst (f := .cell) qa_nil))
    (qss_cons (qs_for (passes_of rfl) rfl (qi_range1 (pi_range1 (by rfl) B.range (qa_cons (qe_callB call_len_seq ref_len (by rfl) B.len (by decide +kernel) (qa_cons (qe_sl sl_list (ref_slL (f := .frz)) (qe_var 0) qo_none (qo_some qe_int)) qa_nil)) qa_nil))) (qg_name (i := 3) nd rfl (by first | exact Or.inl rfl | exact Or.inr rfl)) (qss_cons (qs_set (i := 4) nd rfl (by first | exact Or.inl rfl | exact Or.inr rfl) (qe_ifE (qt_cmp (op_ge) ref_B0 (qe_ix (qe_var 0) (qe_var 3) (fun _ _ => rfl)) qe_int (nomark _)) (qe_ix (qe_var 0) (qe_var 3) (fun _ _ => rfl)) (qe_un un_neg ref_U (qe_ix (qe_var 0) (qe_var 3) (fun _ _ => rfl)))))
    (qss_one (qs_if (qt_cmp (op_ge) ref_B0 (qe_var 4) qe_int (nomark _)) (qss_cons (qs_expr (qe_bm PySem.F.slot_list_append PySem.F.type_list_append mt_append ref_append (qe_var 1) (qa_cons (qe_op op_fdiv ref_II (qe_var 4) qe_int) qa_nil)))
    (qss_one (qs_expr (qe_bm PySem.F.slot_list_append PySem.F.type_list_append mt_append ref_append (qe_var 2) (qa_cons (qe_call C.law_mixed hr (by decide) tk (by rfl) (qa_cons (qe_op op_mod ref_II (qe_callTy call_int1 ref_int (by rfl) B.int (by decide +kernel) (qa_cons (qe_var 4) qa_nil)) qe_int) (qa_cons (qe_var 3) qa_nil))) qa_nil))))) (qss_one (qs_expr (qe_bm PySem.F.slot_list_append PySem.F.type_list_append mt_append ref_append (qe_var 1) (qa_cons (qe_call C.law_mixed hr (by decide) tk (by rfl) (qa_cons (qe_op op_add ref_I0 (qe_op op_mul ref_II qe_int (qe_op op_mod ref_II (qe_callTy call_int1 ref_int (by rfl) B.int (by decide +kernel) (qa_cons (qe_var 4) qa_nil)) qe_int)) (qe_ifE (qt_cmp (op_lt) ref_B0 (qe_ix (qe_var 0) (qe_var 3) (fun _ _ => rfl)) qe_int (nomark _)) qe_int qe_int)) (qa_cons (qe_var 3) qa_nil))) qa_nil))))))))
    (qss_one (qs_ret (qe_ifE (qt_cmp (op_gt) ref_B0 (qe_callB call_len_seq ref_len (by rfl) B.len (by decide +kernel) (qa_cons (qe_var 1) qa_nil)) qe_int (nomark _)) (qe_op op_cat (ref_cat (f := .cell)) (qe_var 1) (qe_var 2)) (qe_lst (f := .cell) (qa_cons (qe_call C.law_mixed hr (by decide) tk (by rfl) (qa_cons qe_int (qa_cons qe_int qa_nil))) qa_nil))))))))) (fun ds l Qd Ed hl h => ?_)
  obtain ⟨ns, rfl, rfl, hn, q⟩ := h
  walk_at "q"
  rw [show QL.cutD (ns.map D.int) none (some 63) = ns.map D.int from cut63 (k := 63) (by simpa using hn)]
  simp only [List.length_map]
  refine ⟨by omega, by omega, ?_⟩
  refine loopR (fun i σ l => ∃ (xs bs : List Int) (x y : Option QL.P), σ = [some (.d (.scr (ns.map .int))), some (.loc 0), some (.loc 1), x, y] ∧ l = [.lst (xs.map .int), .lst (bs.map .int)] ∧ xs.length = i ∧ bs.length ≤ i ∧ (∀ n ∈ xs, 0 ≤ n) ∧ (∀ n ∈ bs, 0 ≤ n)) ⟨[], [], _, _, rfl, rfl, rfl, by simp, by simp, by simp⟩ ?_ ?_
  · rintro i σ l hi ⟨xs, bs, x, y, rfl, rfl, ha, hb, h1, h2⟩
    walk_at "q"
    have hi2 : i < ns.length := by omega
    simp only [atI_m (f := D.int) (k := (i : Int)) rfl (get_at hi2), Option.some.injEq, exists_eq_left']
    generalize ns[i] = v
    have end1 : ∀ (n : Nat), n < 100 → n < sizeLine := fun n h => Nat.lt_trans h (by decide)
    have big : ∀ u : Int, u ≥ 1000000000000000000 → (∀ n : Int, n ∈ xs ++ [u / 2] → 0 ≤ n) := fun u hu n h => by
      rcases List.mem_append.mp h with h | h
      · exact h1 n h
      · simp at h; omega
    have add : ∀ (zs : List Int) (r : Int), (∀ n ∈ zs, 0 ≤ n) → 0 ≤ r → ∀ n : Int, n ∈ zs ++ [r] → 0 ≤ n := fun zs r hz hr n h => by
      rcases List.mem_append.mp h with h | h
      · exact hz n h
      · simp at h; omega
    split <;> split
    · rename_i h3 h4
      refine ⟨by decide, end1 _ (by omega), _, _, rfl, rfl, fun r hr => ?_⟩
      walk_at "q"
      exact ⟨end1 _ (by omega), xs ++ [v / 2], bs ++ [r], _, _, rfl, by simp, by simp [ha], by simp; omega, big v h4, add bs r h2 hr⟩
    · rename_i h3 h4
      split
      all_goals
        refine ⟨_, _, rfl, rfl, fun r hr => ?_⟩
        walk_at "q"
        exact ⟨end1 _ (by omega), xs ++ [r], bs, _, _, rfl, by simp, by simp [ha], by omega, add xs r h1 hr, h2⟩
    · rename_i h3 h4
      refine ⟨end1 _ (by omega), _, _, rfl, rfl, fun r hr => ?_⟩
      walk_at "q"
      exact ⟨end1 _ (by omega), xs ++ [-v / 2], bs ++ [r], _, _, rfl, by simp, by simp [ha], by simp; omega, big (-v) h4, add bs r h2 hr⟩
    · rename_i h3 h4
      split
      all_goals
        refine ⟨_, _, rfl, rfl, fun r hr => ?_⟩
        walk_at "q"
        exact ⟨end1 _ (by omega), xs ++ [r], bs, _, _, rfl, by simp, by simp [ha], by omega, add xs r h1 hr, h2⟩
  · rintro σ l ⟨xs, bs, x, y, rfl, rfl, ha, hb, h1, h2⟩
    walk_at "q"
    split
    · refine ⟨Nat.le_of_lt (Nat.lt_of_le_of_lt (show xs.length + bs.length ≤ 1000 by omega) (by decide)), ?_⟩
      have := q (xs ++ bs) (by simp; omega) (fun n h => by
        rcases List.mem_append.mp h with h | h
        · exact h1 n h
        · exact h2 n h)
      simpa using this
    · refine ⟨_, _, rfl, rfl, fun r hr => ?_⟩
      walk_at "q"
      have := q [r] (by simp) (by simpa using hr)
      simpa using this
theorem ok_law_take {f : Addr} {fd : FuncData} (F : Fun K "_law_take" "_law_take" s_law_take f fd) (B : Bt mg) : FnOk P w K mg base (L2N.CX P w) 1 f fd ["purse", "many"] (spQ K 2 fs_law_take) := by
  have nd := sc_law_take.nd
  refine fun_q (k := 0) F sc_law_take 2 rfl (fun cdv A outer s H E hr tk => (qss_cons (qs_while (passes_of rfl) (QW.qt (qw_and (qt_cmp (op_gt) ref_B0 (qe_callB call_len_seq ref_len (by rfl) B.len (by decide +kernel) (qa_cons (qe_var 0) qa_nil)) qe_int (nomark _)) (qw_and1 (qt_cmp (op_eqD hr.units) ref_eq (qe_ix (qe_var 0) qe_int (fun _ _ => rfl)) qe_int (nomark _))))) (qss_one (qs_expr (qe_bm PySem.F.slot_list_pop PySem.F.type_list_pop mt_popAt ref_popAt (qe_var 0) (qa_cons qe_int qa_nil)))))
    (qss_cons (qs_if (qt_cmp (op_eqD hr.units) ref_eq (qe_callB call_len_seq ref_len (by rfl) B.len (by decide +kernel) (qa_cons (qe_var 0) qa_nil)) qe_int (nomark _)) (qss_one (qs_ret qe_int)) qss_nil)
    (qss_cons (qs_set (i := 2) nd rfl (by first | exact Or.inl rfl | exact Or.inr rfl) (qe_op op_mod ref_II (qe_callTy call_int1 ref_int (by rfl) B.int (by decide +kernel) (qa_cons (qe_ix (qe_var 0) qe_int (fun _ _ => rfl)) qa_nil)) (qe_var 1)))
    (qss_cons (qs_asg (qe_op op_fdiv ref_II (qe_ix (qe_var 0) qe_int (fun _ _ => rfl)) (qe_var 1)) (qg_subL (W := W0) (qe_var 0) qe_int))
    (qss_one (qs_ret (qe_var 2)))))))) (fun ds l Qd Ed hl h => ?_)
  obtain ⟨ns, m, rfl, rfl, hp, h1, h2, q⟩ := h
  walk_at "q"
  refine whileI (fun σ l => ∃ ns', σ = [some (.loc 0), some (.d (.int m)), none] ∧ l = [.lst (ns'.map .int)] ∧ Pur ns') (fun _ l => match l with | [.lst ws] => ws.length | _ => 0) ⟨_, rfl, rfl, hp⟩ ?_
  rintro σ l ⟨ns', rfl, rfl, hp'⟩
  cases ns' with
  | nil =>
    walk_at "q"
    exact q 0 [] (by omega) (by omega) hp'
  | cons x r =>
    walk_at "q"
    have hx : 0 ≤ x := hp'.2 x (by simp)
    have hr : Pur r := ⟨by have := hp'.1; simp at this; omega, fun n h => hp'.2 n (by simp [h])⟩
    have m1 := Int.emod_nonneg x (show m ≠ 0 by omega)
    have m2 := Int.emod_lt_of_pos x (show 0 < m by omega)
    split
    · exact ⟨0, D.int x, rfl, rfl, r.length, by omega, by simp, r, rfl, hr⟩
    · refine ⟨by omega, ⟨by omega, by omega⟩, q (x % m) (x / m :: r) m1 m2 ⟨by have := hp'.1; simpa using this, fun n h => ?_⟩⟩
      rcases List.mem_cons.mp h with h | h
      · rw [h]
        exact Int.ediv_nonneg hx (by omega)
      · exact hr.2 n h
structure Cs_law_name (P : Program) (w : World) (K : PySem.W.Frag) (mg : Str → Option Value) (base : Heap) : Prop where
  law_take : CalQ P w K mg base 1 "_law_take" 2 fs_law_take
theorem ok_law_name {f : Addr} {fd : FuncData} (F : Fun K "_law_name" "_law_name" s_law_name f fd) (B : Bt mg) (C : Cs_law_name P w K mg base) : FnOk P w K mg base (L2N.CX P w) 2 f fd ["purse", "number"] (spQ K 2 fs_law_name) := by
  have nd := sc_law_name.nd
  refine fun_q (k := 1) F sc_law_name 2 rfl (fun cdv A outer s H E hr tk => (qss_cons (qs_set (i := 2) nd rfl (by first | exact Or.inl rfl | exact Or.inr rfl) qe_str)
    (qss_cons (qs_for (passes_of rfl) rfl (qi_range1 (pi_range1 (by rfl) B.range (qa_cons (qe_op op_add ref_I0 qe_int (qe_call C.law_take hr (by decide) tk (by rfl) (qa_cons (qe_var 0) (qa_cons qe_int qa_nil)))) qa_nil))) (qg_name (i := 3) nd rfl (by first | exact Or.inl rfl | exact Or.inr rfl)) (qss_one (qs_set (i := 2) nd rfl (by first | exact Or.inl rfl | exact Or.inr rfl) (qe_op op_add_str ref_catS (qe_var 2) (qe_ix qe_str (qe_call C.law_take hr (by decide) tk (by rfl) (qa_cons (qe_var 0) (qa_cons qe_int qa_nil))) (fun _ _ => rfl))))))
    (qss_one (qs_ret (qe_op op_add_str ref_catS (qe_op op_add_str ref_catS (qe_var 2) qe_str) (qe_callTy call_str_int ref_str (by rfl) B.str (by decide +kernel) (qa_cons (qe_var 1) qa_nil)))))))) (fun ds l Qd Ed hl h => ?_)
  obtain ⟨ns, n, rfl, rfl, hp, hn, q⟩ := h
  walk_at "q"
  refine ⟨ns, 4, rfl, rfl, hp, by omega, by omega, fun r ns1 r0 r1 hp1 => ?_⟩
  walk_at "q"
  refine ⟨by omega, by omega, ?_⟩
  refine loopR (fun i σ l => ∃ (z : Str) (ns' : List Int) (x : Option QL.P), σ = [some (.loc 0), some (.d (.int n)), some (.d (.str z)), x] ∧ l = [.lst (ns'.map .int)] ∧ z.length = i ∧ (∀ x ∈ z.cps.toList, x < 128) ∧ Pur ns') ⟨_, ns1, _, rfl, rfl, rfl, by decide, hp1⟩ ?_ ?_
  · rintro i σ l hi ⟨z, ns', x, rfl, rfl, hc, hz, hp'⟩
    walk_at "q"
    refine ⟨ns', 26, rfl, rfl, hp', by omega, by omega, fun r ns2 r0 r1 hp2 => ?_⟩
    obtain ⟨j, rfl⟩ := Int.eq_ofNat_of_zero_le r0
    have hj : j < ("abcdefghijklmnopqrstuvwxyz" : Str).cps.toList.length := by
      have : ("abcdefghijklmnopqrstuvwxyz" : Str).cps.toList.length = 26 := by decide +kernel
      omega
    walk_at "q"
    refine ⟨by decide, _, atI_n rfl (get_at hj), ?_⟩
    refine ⟨Nat.le_trans (show z.length + 1 ≤ 100 by omega) (by decide), _, ns2, _, rfl, rfl, ?_, fun y hy => ?_, hp2⟩
    · rw [len_cat, hc]
      rfl
    · rw [cat_list] at hy
      rcases List.mem_append.mp hy with h | h
      · exact hz y h
      · obtain rfl := List.mem_singleton.mp (show y ∈ [_] from h)
        exact sml_ok _ (List.getElem_mem hj)
  · rintro σ l ⟨z, ns', x, rfl, rfl, hc, hz, hp'⟩
    walk_at "q"
    have hl3 := len_num n hn
    have h1 : z.length + (Str.ofString "q").length ≤ 5 := by show z.length + 1 ≤ 5; omega
    refine ⟨Nat.le_trans h1 (by decide), ?_⟩
    have hlog : (n : Int).natAbs.log2 < 1920 := by
      have : n.log2 ≤ 10 := by
        by_cases h0 : n = 0
        · rw [h0]; decide
        · have := (Nat.log2_lt h0 (k := 10)).mpr (by omega)
          omega
      show n.log2 < 1920
      omega
    refine ⟨hlog, ?_⟩
    have h2 : (z ++ Str.ofString "q").length + (Str.ofString (toString (n : Int))).length ≤ 8 := by
      rw [len_cat]
      omega
    refine ⟨Nat.le_trans h2 (by decide), q _ _ (by rw [len_cat]; exact h2) (okS fun x hx => ?_) hp'⟩
    rw [cat_list, cat_list] at hx
    rcases List.mem_append.mp hx with h | h
    · rcases List.mem_append.mp h with h | h
      · exact hz x h
      · exact (show ∀ x ∈ (Str.ofString "q").cps.toList, x < 128 by decide) x h
    · exact num_ok n hn x h
theorem ok_law_reserved {f : Addr} {fd : FuncData} (F : Fun K "_law_reserved" "_law_reserved" s_law_reserved f fd) (B : Bt mg) : FnOk P w K mg base (L2N.CX P w) 1 f fd [] (spQ K 0 fs_law_reserved) := by
  have nd := sc_law_reserved.nd
  refine fun_q (k := 0) F sc_law_reserved 0 rfl (fun cdv A outer s H E hr tk => (qss_one (qs_ret (qe_tup (qa_cons qe_str (qa_cons qe_str (qa_cons qe_str (qa_cons qe_str (qa_cons qe_str (qa_cons qe_str (qa_cons qe_str (qa_cons qe_str (qa_cons qe_str (qa_cons qe_str (qa_cons qe_str (qa_cons qe_str (qa_cons qe_str (qa_cons qe_str (qa_cons qe_str (qa_cons qe_str qa_nil)))))))))))))))))))) (fun ds l Qd Ed hl h => ?_)
  obtain ⟨rfl, rfl, q⟩ := h
  walk_at "q"
  exact q
structure Cs_law_named (P : Program) (w : World) (K : PySem.W.Frag) (mg : Str → Option Value) (base : Heap) : Prop where
  law_reserved : CalQ P w K mg base 1 "_law_reserved" 0 fs_law_reserved
theorem ok_law_named {f : Addr} {fd : FuncData} (F : Fun K "_law_named" "_law_named" s_law_named f fd) (B : Bt mg) (C : Cs_law_named P w K mg base) : FnOk P w K mg base (L2N.CX P w) 2 f fd ["text"] (spQ K 1 fs_law_named) := by
  have nd := sc_law_named.nd
  refine fun_q (k := 1) F sc_law_named 1 rfl (fun cdv A outer s H E hr tk => (qss_cons (qs_set (i := 1) nd rfl (by first | exact Or.inl rfl | exact Or.inr rfl) qe_str)
    (qss_cons (qs_if (QW.qt (qw_or (qt_not (qt_chain (op_le) ref_B0 (op_le) ref_B0 qe_int (qe_callB call_len_str ref_lenS (by rfl) B.len (by decide +kernel) (qa_cons (qe_var 0) qa_nil)) qe_int)) (qw_or (qt_cmp (op_in_seq) ref_in (qe_var 0) (qe_call0 C.law_reserved hr (by decide) tk (by rfl)) (by rfl)) (qw_or1 (qt_cmp (op_notIn_str) ref_notInC (qe_ix (qe_var 0) qe_int (fun _ _ => rfl)) (qe_var 1) (by rfl)))))) (qss_one (qs_ret qe_bl)) qss_nil)
    (qss_one (qs_ret (qe_callB (cr_all rfl) ref_all (by rfl) B.all (by decide +kernel) (qa_cons (qe_lc (f := .frz) (own := [("sign", 2)]) rfl nd (qi_str (pi_str (qe_var 0))) (blkOk_by (N := N_law_named) (sc := defScope s_law_named) (by decide +kernel)) (fun _ _ _ _ _ => (qgv_name (i := 2) (by decide) nd rfl (by first | exact Or.inl rfl | exact Or.inr rfl))) (fun _ _ _ _ _ => qts_nil) (fun _ _ _ _ _ => (qe_cmp (op_in_str) ref_inC (qe_var 2) (qe_op op_add_str ref_catS (qe_var 1) qe_str) (by rfl)))) qa_nil))))))) (fun ds l Qd Ed hl h => ?_)
  obtain ⟨z, rfl, rfl, hz, q⟩ := h
  have hsz : z.length ≤ sizeLine := Nat.le_trans hz (by decide)
  have hll : z.length = z.cps.toList.length := by unfold Str.length; simp
  have no : spelled z = false → Qd (QL.P.d (D.bl false)) [] := fun e => by
    unfold named at q
    rw [e] at q
    exact q
  walk_at "q"
  refine ⟨hsz, ?_⟩
  split
  · rename_i h1
    split
    · rename_i h2
      exact no (by unfold spelled; rw [decide_eq_false (by omega)]; rfl)
    · rename_i h2
      obtain ⟨c, r, hc⟩ : ∃ c r, z.cps.toList = c :: r := by
        cases h : z.cps.toList with
        | nil => rw [h] at hll; simp at hll; omega
        | cons c r => exact ⟨c, r, rfl⟩
      have e : spelled z = (decide (c ∈ SML.cps.toList) && z.cps.toList.all sgn) := by
        unfold spelled
        rw [decide_eq_true (by omega), hc]
        rfl
      refine ⟨rfl, rfl, ?_⟩
      walk_at "q"
      refine ⟨rfl, by decide, ?_⟩
      have er : ((List.map D.str RES).any fun z_1 => z_1.eqv (D.str z)) = inRes z := rfl
      rw [er]
      split
      · rename_i h3
        unfold named at q
        rw [h3, Bool.not_true, Bool.and_false] at q
        exact q
      · rename_i h3
        rw [Bool.not_eq_true] at h3
        unfold named at q
        rw [h3, Bool.not_false, Bool.and_true, e] at q
        refine ⟨hsz, c, by rw [hc]; exact atI_cons0, c, rfl, ?_⟩
        walk_at "q"
        have f1 : (Str.ofString "abcdefghijklmnopqrstuvwxyz") = SML := rfl
        have f2 : (Str.ofString "0123456789") = FGS := rfl
        rw [f1, Bool.xor_true]
        split
        · rename_i h3
          rw [Bool.not_eq_true'] at h3
          rw [h3] at q
          exact q
        · rename_i h3
          rw [Bool.not_eq_true', Bool.not_eq_false] at h3
          rw [h3, Bool.true_and] at q
          refine lcI (fun i acc l => acc = ((z.cps.toList.take i).map sgn).map .bl ∧ l = []) (by unfold signsD; rw [List.length_map, ← hll]; exact Nat.lt_of_le_of_lt hz (by decide)) ⟨rfl, rfl⟩ ?_ ?_
          · rintro i x acc l hx ha ⟨rfl, rfl⟩
            unfold signsD at hx ⊢
            rw [List.getElem?_map] at hx
            obtain ⟨a, ha1, rfl⟩ := Option.map_eq_some_iff.mp hx
            have hi := (List.getElem?_eq_some_iff.mp ha1).1
            have nx : ∀ b, b = sgn a → ((List.map D.bl (List.map sgn (List.take i z.cps.toList)) ++ [D.bl b]).length = i + 1 ∧ i + 1 ≤ z.cps.toList.length) ∧ List.map D.bl (List.map sgn (List.take i z.cps.toList)) ++ [D.bl b] = List.map D.bl (List.map sgn (List.take (i + 1) z.cps.toList)) := fun b hb => by
              subst hb
              refine ⟨⟨by rw [List.length_append, ha]; rfl, by omega⟩, ?_⟩
              rw [List.take_add_one, ha1, Option.toList_some, List.map_append, List.map_append]
              rfl
            walk_at "q"
            refine ⟨by decide, a, rfl, ?_⟩
            rw [Bool.xor_false]
            have h5 : decide (a ∈ (SML ++ FGS).cps.toList) = sgn a := by
              unfold sgn
              rw [cat_list]
              simp only [List.mem_append, Bool.decide_or]
            exact ⟨nx _ h5 |>.1, nx _ h5 |>.2, rfl⟩
          · rintro acc l ha ⟨rfl, rfl⟩
            walk_at "q"
            refine ⟨z.cps.toList.map sgn, ?_, ?_⟩
            · unfold signsD
              rw [List.length_map, List.take_length]
            · rw [List.all_map]
              exact q
  · rename_i h1
    exact no (by unfold spelled; rw [decide_eq_false (by omega)]; rfl)
structure Cs_law_text (P : Program) (w : World) (K : PySem.W.Frag) (mg : Str → Option Value) (base : Heap) : Prop where
  law_take : CalQ P w K mg base 1 "_law_take" 2 fs_law_take
theorem ok_law_text {f : Addr} {fd : FuncData} (F : Fun K "_law_text" "_law_text" s_law_text f fd) (B : Bt mg) (C : Cs_law_text P w K mg base) : FnOk P w K mg base (L2N.CX P w) 2 f fd ["purse"] (spQ K 1 fs_law_text) := by
  have nd := sc_law_text.nd
  refine fun_q (k := 1) F sc_law_text 1 rfl (fun cdv A outer s H E hr tk => (qss_cons (qs_set (i := 1) nd rfl (by first | exact Or.inl rfl | exact Or.inr rfl) qe_str)
    (qss_cons (qs_if (qt_cmp (op_gt) ref_B0 (qe_call C.law_take hr (by decide) tk (by rfl) (qa_cons (qe_var 0) (qa_cons qe_int qa_nil))) qe_int (nomark _)) (qss_one (qs_set (i := 1) nd rfl (by first | exact Or.inl rfl | exact Or.inr rfl) qe_str)) qss_nil)
    (qss_cons (qs_set (i := 2) nd rfl (by first | exact Or.inl rfl | exact Or.inr rfl) qe_str)
    (qss_cons (qs_for (passes_of rfl) rfl (qi_range1 (pi_range1 (by rfl) B.range (qa_cons (qe_call C.law_take hr (by decide) tk (by rfl) (qa_cons (qe_var 0) (qa_cons qe_int qa_nil))) qa_nil))) (qg_name (i := 3) nd rfl (by first | exact Or.inl rfl | exact Or.inr rfl)) (qss_one (qs_set (i := 2) nd rfl (by first | exact Or.inl rfl | exact Or.inr rfl) (qe_op op_add_str ref_catS (qe_var 2) (qe_ix (qe_var 1) (qe_call C.law_take hr (by decide) tk (by rfl) (qa_cons (qe_var 0) (qa_cons (qe_callB call_len_str ref_lenS (by rfl) B.len (by decide +kernel) (qa_cons (qe_var 1) qa_nil)) qa_nil))) (fun _ _ => rfl))))))
    (qss_one (qs_ret (qe_var 2)))))))) (fun ds l Qd Ed hl h => ?_)
  obtain ⟨ns, rfl, rfl, hp, q⟩ := h
  walk_at "q"
  refine ⟨ns, 3, rfl, rfl, hp, by omega, by omega, fun r ns1 r0 r1 hp1 => ?_⟩
  walk_at "q"
  split
  · generalize hS : Str.ofString "abcdefghijklmnopqrstuvwxyz0123456789" = S
    have hSa : S.length ≤ 100 := by rw [← hS]; decide
    have hSb : 1 ≤ S.length := by rw [← hS]; decide
    have hSl : S.cps.toList.length = S.length := by unfold Str.length; simp
    clear hS
    refine ⟨ns1, 15, rfl, rfl, hp1, by omega, by omega, fun r ns1 r0 r1 hp1 => ?_⟩
    walk_at "q"
    refine ⟨by omega, by omega, ?_⟩
    refine loopR (fun i σ l => ∃ (z : Str) (ns' : List Int) (x : Option QL.P), σ = [some (.loc 0), some (.d (.str S)), some (.d (.str z)), x] ∧ l = [.lst (ns'.map .int)] ∧ z.length = i ∧ Pur ns') ⟨_, ns1, _, rfl, rfl, rfl, hp1⟩ ?_ ?_
    · rintro i σ l hi ⟨z, ns', x, rfl, rfl, hc, hp'⟩
      walk_at "q"
      refine ⟨Nat.le_trans hSa (by decide), ns', _, rfl, rfl, hp', by omega, by omega, fun r ns2 r0 r1 hp2 => ?_⟩
      obtain ⟨j, rfl⟩ := Int.eq_ofNat_of_zero_le r0
      have hj : j < S.cps.toList.length := by omega
      walk_at "q"
      refine ⟨Nat.le_trans hSa (by decide), _, atI_n rfl (get_at hj), ?_⟩
      refine ⟨Nat.le_trans (show z.length + 1 ≤ 100 by omega) (by decide), _, ns2, _, rfl, rfl, ?_, hp2⟩
      rw [len_cat, hc]
      rfl
    · rintro σ l ⟨z, ns', x, rfl, rfl, hc, hp'⟩
      walk_at "q"
      exact q z ns' (by omega) hp'
  · generalize hS : Str.ofString " !\"#$&'()*+,-./0123456789:;<=>?@ABCDEFGHIJKLMNOPQRSTUVWXYZ[\\]^_`abcdefghijklmnopqrstuvwxyz{|}~\n" = S
    have hSa : S.length ≤ 100 := by rw [← hS]; decide
    have hSb : 1 ≤ S.length := by rw [← hS]; decide
    have hSl : S.cps.toList.length = S.length := by unfold Str.length; simp
    clear hS
    refine ⟨ns1, 15, rfl, rfl, hp1, by omega, by omega, fun r ns1 r0 r1 hp1 => ?_⟩
    walk_at "q"
    refine ⟨by omega, by omega, ?_⟩
    refine loopR (fun i σ l => ∃ (z : Str) (ns' : List Int) (x : Option QL.P), σ = [some (.loc 0), some (.d (.str S)), some (.d (.str z)), x] ∧ l = [.lst (ns'.map .int)] ∧ z.length = i ∧ Pur ns') ⟨_, ns1, _, rfl, rfl, rfl, hp1⟩ ?_ ?_
    · rintro i σ l hi ⟨z, ns', x, rfl, rfl, hc, hp'⟩
      walk_at "q"
      refine ⟨Nat.le_trans hSa (by decide), ns', _, rfl, rfl, hp', by omega, by omega, fun r ns2 r0 r1 hp2 => ?_⟩
      obtain ⟨j, rfl⟩ := Int.eq_ofNat_of_zero_le r0
      have hj : j < S.cps.toList.length := by omega
      walk_at "q"
      refine ⟨Nat.le_trans hSa (by decide), _, atI_n rfl (get_at hj), ?_⟩
      refine ⟨Nat.le_trans (show z.length + 1 ≤ 100 by omega) (by decide), _, ns2, _, rfl, rfl, ?_, hp2⟩
      rw [len_cat, hc]
      rfl
    · rintro σ l ⟨z, ns', x, rfl, rfl, hc, hp'⟩
      walk_at "q"
      exact q z ns' (by omega) hp'
structure Cs_law_known (P : Program) (w : World) (K : PySem.W.Frag) (mg : Str → Option Value) (base : Heap) : Prop where
  law_take : CalQ P w K mg base 1 "_law_take" 2 fs_law_take
  law_reserved : CalQ P w K mg base 1 "_law_reserved" 0 fs_law_reserved
theorem ok_law_known {f : Addr} {fd : FuncData} (F : Fun K "_law_known" "_law_known" s_law_known f fd) (B : Bt mg) (C : Cs_law_known P w K mg base) : FnOk P w K mg base (L2N.CX P w) 2 f fd ["purse"] (spQ K 1 fs_law_known) := by
  have nd := sc_law_known.nd
  refine fun_q (k := 1) F sc_law_known 1 rfl (fun cdv A outer s H E hr tk => (qss_cons (qs_set (i := 1) nd rfl (by first | exact Or.inl rfl | exact Or.inr rfl) (qe_ix (qe_call0 C.law_reserved hr (by decide) tk (by rfl)) (qe_call C.law_take hr (by decide) tk (by rfl) (qa_cons (qe_var 0) (qa_cons qe_int qa_nil))) (fun _ _ => rfl)))
    (qss_cons (qs_set (i := 2) nd rfl (by first | exact Or.inl rfl | exact Or.inr rfl) (qe_call C.law_take hr (by decide) tk (by rfl) (qa_cons (qe_var 0) (qa_cons qe_int qa_nil))))
    (qss_cons (qs_if (qt_cmp (op_eqD hr.units) ref_eq (qe_var 2) qe_int (nomark _)) (qss_one (qs_ret (qe_var 1))) qss_nil)
    (qss_cons (qs_if (qt_cmp (op_eqD hr.units) ref_eq (qe_var 2) qe_int (nomark _)) (qss_one (qs_ret (qe_sl sl_str ref_slS (qe_var 1) qo_none (qo_some (qe_op op_sub ref_I0 (qe_callB call_len_str ref_lenS (by rfl) B.len (by decide +kernel) (qa_cons (qe_var 1) qa_nil)) qe_int))))) qss_nil)
    (qss_cons (qs_if (qt_cmp (op_eqD hr.units) ref_eq (qe_var 2) qe_int (nomark _)) (qss_one (qs_ret (qe_op op_add_str ref_catS (qe_var 1) qe_str))) qss_nil)
    (qss_one (qs_ret (qe_upper (qe_var 1)))))))))) (fun ds l Qd Ed hl h => ?_)
  obtain ⟨ns, rfl, rfl, hp, q⟩ := h
  walk_at "q"
  refine ⟨rfl, rfl, ?_⟩
  walk_at "q"
  refine ⟨ns, 16, rfl, rfl, hp, by omega, by omega, fun r ns1 r0 r1 hp1 => ?_⟩
  obtain ⟨j, rfl⟩ := Int.eq_ofNat_of_zero_le r0
  have hj : j < RES.length := by show j < 16; omega
  obtain ⟨z, hz, hl⟩ : ∃ z, RES[j]? = some z ∧ z.length ≤ 8 := ⟨_, get_at hj, (show ∀ z ∈ RES, z.length ≤ 8 by decide) _ (List.getElem_mem hj)⟩
  walk_at "q"
  refine ⟨_, atI_m (f := D.str) rfl hz, ?_⟩
  refine ⟨ns1, 4, rfl, rfl, hp1, by omega, by omega, fun r ns2 r0 r1 hp2 => ?_⟩
  walk_at "q"
  have hz8 : z.length ≤ sizeLine := Nat.le_trans hl (by decide)
  split
  · exact q _ _ (by omega) hp2
  · split
    · refine ⟨hz8, hz8, q _ _ ?_ hp2⟩
      have := len_cutS z none (some (z.length - 1 : Int))
      omega
    · split
      · have h9 : (z ++ Str.ofString "x").length = z.length + 1 := len_cat _ _
        refine ⟨Nat.le_trans (show z.length + 1 ≤ 100 by omega) (by decide), q _ _ (by omega) hp2⟩
      · have := PyProof.Rows.len_upper z
        exact ⟨⟨z, rfl⟩, by omega, q _ _ (by omega) hp2⟩
theorem ok_law_kin {f : Addr} {fd : FuncData} (F : Fun K "_law_kin" "_law_kin" s_law_kin f fd) (B : Bt mg) (Y : Ys K mg) {ea : Addr} {eo : Obj} {ec : Value} {ed : Option Addr} (hB : base.get? ea = some eo) (hz : Zc ec ed eo) (hv : ∃ vs, eo.data = .fields vs) : L2H.FnH P w K mg base (L2N.CX P w) 1 f fd ["error"] (spQ K 1 (fs_law_kin ea ec ed)) := by
  have nd := sc_law_kin.nd
  refine fun_qH (k := 0) F sc_law_kin 1 rfl (fun cdv A outer s H E p hr tk => (qss_one (qs_ret (qe_lst (f := .frz) (qa_cons (qe_isXB (m := isa_BadText) hB Y.is_BadText hz hv (qe_var 0) (pe_glob (v := .ref (clsA K "BadText")) (by rfl) Y.cm_BadText rfl) (fun _ h => h) (by rfl) B.isinstance) (qa_cons (qe_isXB (m := isa_UnknownWord) hB Y.is_UnknownWord hz hv (qe_var 0) (pe_glob (v := .ref (clsA K "UnknownWord")) (by rfl) Y.cm_UnknownWord rfl) (fun _ h => h) (by rfl) B.isinstance) (qa_cons (qe_isXB (m := isa_BadBook) hB Y.is_BadBook hz hv (qe_var 0) (pe_glob (v := .ref (clsA K "BadBook")) (by rfl) Y.cm_BadBook rfl) (fun _ h => h) (by rfl) B.isinstance) (qa_cons (qe_isXB (m := isa_BadProgram) hB Y.is_BadProgram hz hv (qe_var 0) (pe_glob (v := .ref (clsA K "BadProgram")) (by rfl) Y.cm_BadProgram rfl) (fun _ h => h) (by rfl) B.isinstance) (qa_cons (qe_isXB (m := isa_BadTask) hB Y.is_BadTask hz hv (qe_var 0) (pe_glob (v := .ref (clsA K "BadTask")) (by rfl) Y.cm_BadTask rfl) (fun _ h => h) (by rfl) B.isinstance) (qa_cons (qe_isXB (m := isa_TooMany) hB Y.is_TooMany hz hv (qe_var 0) (pe_glob (v := .ref (clsA K "TooMany")) (by rfl) Y.cm_TooMany rfl) (fun _ h => h) (by rfl) B.isinstance) (qa_cons (qe_isXB (m := isa_NotThere) hB Y.is_NotThere hz hv (qe_var 0) (pe_glob (v := .ref (clsA K "NotThere")) (by rfl) Y.cm_NotThere rfl) (fun _ h => h) (by rfl) B.isinstance) (qa_cons (qe_isXB (m := isa_NothingLeft) hB Y.is_NothingLeft hz hv (qe_var 0) (pe_glob (v := .ref (clsA K "NothingLeft")) (by rfl) Y.cm_NothingLeft rfl) (fun _ h => h) (by rfl) B.isinstance) qa_nil)))))))))))) (fun ds l Qd Ed hl h => ?_)
  obtain ⟨y, ns, xs, rfl, rfl, hy, q⟩ := h
  have hy' : y ∈ (["BadBook", "BadProgram", "BadTask", "BadText", "NotThere", "NothingLeft", "TooMany", "UnknownWord"] : List Str) := by
    revert hy
    simp only [XS, List.mem_cons, List.not_mem_nil, or_false]
    intro h
    rcases h with h | h | h | h | h | h | h | h <;> subst h <;> decide
  walk_at "q"
  refine ⟨y, ns, xs, rfl, hy', y, ns, xs, rfl, hy', y, ns, xs, rfl, hy', y, ns, xs, rfl, hy', y, ns, xs, rfl, hy', y, ns, xs, rfl, hy', y, ns, xs, rfl, hy', y, ns, xs, rfl, hy', ?_⟩
  have e : ∀ c : Str, decide (c = y) = decide (y ∈ ([c] : List Str)) := fun c => by
    by_cases h : y = c
    · subst h; simp
    · rw [decide_eq_false fun z => h z.symm, decide_eq_false (by simpa using h)]
  simp only [XS, List.map_cons, List.map_nil, e] at q
  exact q
theorem ok_law_raised {f : Addr} {fd : FuncData} (F : Fun K "_law_raised" "_law_raised" s_law_raised f fd) (B : Bt mg) (R : Rs P w K mg base) : FnOk P w K mg base (L2N.CX P w) 3 f fd ["which", "reason", "number"] (spQ K 3 fs_law_raised) := by
  have nd := sc_law_raised.nd
  refine fun_q (k := 2) F sc_law_raised 3 rfl (fun cdv A outer s H E hr tk => (qss_cons (qs_if (qt_cmp (op_eqD hr.units) ref_eq (qe_var 0) qe_int (nomark _)) (qss_one (qs_raise rfl R.BadText hr (by decide) tk (by rfl) (qa_cons (qe_var 2) qa_nil))) qss_nil)
    (qss_cons (qs_if (qt_cmp (op_eqD hr.units) ref_eq (qe_var 0) qe_int (nomark _)) (qss_one (qs_raise rfl R.UnknownWord hr (by decide) tk (by rfl) (qa_cons (qe_var 2) qa_nil))) qss_nil)
    (qss_cons (qs_if (qt_cmp (op_eqD hr.units) ref_eq (qe_var 0) qe_int (nomark _)) (qss_one (qs_raise rfl R.BadBook hr (by decide) tk (by rfl) (qa_cons (qe_var 1) (qa_cons (qe_var 2) qa_nil)))) qss_nil)
    (qss_cons (qs_if (qt_cmp (op_eqD hr.units) ref_eq (qe_var 0) qe_int (nomark _)) (qss_one (qs_raise rfl R.BadProgram hr (by decide) tk (by rfl) (qa_cons (qe_var 1) (qa_cons (qe_var 2) qa_nil)))) qss_nil)
    (qss_cons (qs_if (qt_cmp (op_eqD hr.units) ref_eq (qe_var 0) qe_int (nomark _)) (qss_one (qs_raise rfl R.BadTask hr (by decide) tk (by rfl) (qa_cons (qe_var 1) (qa_cons (qe_var 2) qa_nil)))) qss_nil)
    (qss_cons (qs_if (qt_cmp (op_eqD hr.units) ref_eq (qe_var 0) qe_int (nomark _)) (qss_one (qs_raise rfl R.TooMany hr (by decide) tk (by rfl) (qa_cons (qe_var 2) qa_nil))) qss_nil)
    (qss_cons (qs_if (qt_cmp (op_eqD hr.units) ref_eq (qe_var 0) qe_int (nomark _)) (qss_one (qs_raise rfl R.NotThere hr (by decide) tk (by rfl) (qa_cons (qe_var 2) qa_nil))) qss_nil)
    (qss_one (qs_raise rfl R.NothingLeft hr (by decide) tk (by rfl) (qa_cons (qe_var 1) qa_nil))))))))))) (fun ds l Qd Ed hl h => ?_)
  obtain ⟨w, z, n, rfl, rfl, hw, q⟩ := h
  walk_at "q"
  have h8 : w = 0 ∨ w = 1 ∨ w = 2 ∨ w = 3 ∨ w = 4 ∨ w = 5 ∨ w = 6 ∨ w = 7 := by omega
  rcases h8 with rfl | rfl | rfl | rfl | rfl | rfl | rfl | rfl <;> exact q []
theorem ok_law_kept {f : Addr} {fd : FuncData} (F : Fun K "_law_kept" "_law_kept" s_law_kept f fd) (B : Bt mg) (Y : Ys K mg) {ea : Addr} {eo : Obj} {ec : Value} {ed : Option Addr} (hB : base.get? ea = some eo) (hz : Zc ec ed eo) (hv : ∃ vs, eo.data = .fields vs) : L2H.FnH P w K mg base (L2N.CX P w) 1 f fd ["which", "error", "reason", "number"] (spQ K 4 (fs_law_kept ea ec ed)) := by
  have nd := sc_law_kept.nd
  refine fun_qH (k := 0) F sc_law_kept 4 rfl (fun cdv A outer s H E p hr tk => (qss_cons (qs_if (qt_cmp (op_lt) ref_B0 (qe_var 0) qe_int (nomark _)) (qss_one (qs_ret (qe_cmp (op_eqD hr.units) ref_eq (qe_xfB hB Y.xf_at hz hv (qe_var 1)) (qe_var 3) (nomark _)))) qss_nil)
    (qss_cons (qs_if (qt_cmp (op_eqD hr.units) ref_eq (qe_var 0) qe_int (nomark _)) (qss_one (qs_ret (qe_and (qe_cmp (op_eqD hr.units) ref_eq (qe_xfB hB Y.xf_reason hz hv (qe_var 1)) (qe_var 2) (nomark _)) (qe_one (qe_cmp (op_eqD hr.units) ref_eq (qe_xfB hB Y.xf_name hz hv (qe_var 1)) (qe_var 3) (nomark _)))))) qss_nil)
    (qss_cons (qs_if (qt_cmp (op_eqD hr.units) ref_eq (qe_var 0) qe_int (nomark _)) (qss_one (qs_ret (qe_and (qe_cmp (op_eqD hr.units) ref_eq (qe_xfB hB Y.xf_reason hz hv (qe_var 1)) (qe_var 2) (nomark _)) (qe_one (qe_cmp (op_eqD hr.units) ref_eq (qe_xfB hB Y.xf_at hz hv (qe_var 1)) (qe_var 3) (nomark _)))))) qss_nil)
    (qss_cons (qs_if (qt_cmp (op_eqD hr.units) ref_eq (qe_var 0) qe_int (nomark _)) (qss_one (qs_ret (qe_and (qe_cmp (op_eqD hr.units) ref_eq (qe_xfB hB Y.xf_reason hz hv (qe_var 1)) (qe_var 2) (nomark _)) (qe_one (qe_cmp (op_eqD hr.units) ref_eq (qe_xfB hB Y.xf_number hz hv (qe_var 1)) (qe_var 3) (nomark _)))))) qss_nil)
    (qss_cons (qs_if (qt_cmp (op_eqD hr.units) ref_eq (qe_var 0) qe_int (nomark _)) (qss_one (qs_ret (qe_cmp (op_eqD hr.units) ref_eq (qe_xfB hB Y.xf_limit hz hv (qe_var 1)) (qe_var 3) (nomark _)))) qss_nil)
    (qss_cons (qs_if (qt_cmp (op_eqD hr.units) ref_eq (qe_var 0) qe_int (nomark _)) (qss_one (qs_ret (qe_cmp (op_eqD hr.units) ref_eq (qe_xfB hB Y.xf_number hz hv (qe_var 1)) (qe_var 3) (nomark _)))) qss_nil)
    (qss_one (qs_ret (qe_cmp (op_eqD hr.units) ref_eq (qe_xfB hB Y.xf_word hz hv (qe_var 1)) (qe_var 2) (nomark _))))))))))) (fun ds l Qd Ed hl h => ?_)
  obtain ⟨w, z, n, rfl, rfl, hw, hk, q⟩ := h
  walk_at "q"
  have h8 : w = 0 ∨ w = 1 ∨ w = 2 ∨ w = 3 ∨ w = 4 ∨ w = 5 ∨ w = 6 ∨ w = 7 := by omega
  rcases h8 with rfl | rfl | rfl | rfl | rfl | rfl | rfl | rfl
  · refine ⟨_, _, _, _, rfl, by decide, rfl, trivial, ?_⟩
    rw [D.eqv_int, decide_eq_true rfl]
    exact q
  · refine ⟨_, _, _, _, rfl, by decide, rfl, trivial, ?_⟩
    rw [D.eqv_int, decide_eq_true rfl]
    exact q
  · refine ⟨_, _, _, _, rfl, by decide, rfl, hk, hk, ?_⟩
    rw [D.eqv_str, beq_self_eq_true, if_pos rfl]
    refine ⟨_, _, _, _, rfl, by decide, rfl, trivial, ?_⟩
    rw [D.eqv_int, decide_eq_true rfl]
    exact q
  · refine ⟨_, _, _, _, rfl, by decide, rfl, hk, hk, ?_⟩
    rw [D.eqv_str, beq_self_eq_true, if_pos rfl]
    refine ⟨_, _, _, _, rfl, by decide, rfl, trivial, ?_⟩
    rw [D.eqv_int, decide_eq_true rfl]
    exact q
  · refine ⟨_, _, _, _, rfl, by decide, rfl, hk, hk, ?_⟩
    rw [D.eqv_str, beq_self_eq_true, if_pos rfl]
    refine ⟨_, _, _, _, rfl, by decide, rfl, trivial, ?_⟩
    rw [D.eqv_int, decide_eq_true rfl]
    exact q
  · refine ⟨_, _, _, _, rfl, by decide, rfl, trivial, ?_⟩
    rw [D.eqv_int, decide_eq_true rfl]
    exact q
  · refine ⟨_, _, _, _, rfl, by decide, rfl, trivial, ?_⟩
    rw [D.eqv_int, decide_eq_true rfl]
    exact q
  · refine ⟨_, _, _, _, rfl, by decide, rfl, hk, hk, ?_⟩
    rw [D.eqv_str, beq_self_eq_true]
    exact q
structure Cs_law_caught (P : Program) (w : World) (K : PySem.W.Frag) (mg : Str → Option Value) (base : Heap) : Prop where
  law_kin : CalX P w K mg 1 "_law_kin" 1 fs_law_kin
  law_raised : CalQ P w K mg base 3 "_law_raised" 3 fs_law_raised
  law_kept : CalX P w K mg 1 "_law_kept" 4 fs_law_kept
theorem ok_law_caught {f : Addr} {fd : FuncData} (F : Fun K "_law_caught" "_law_caught" s_law_caught f fd) (B : Bt mg) (C : Cs_law_caught P w K mg base) (Y : Ys K mg) : FnOk P w K mg base (L2N.CX P w) 4 f fd ["which", "reason", "number"] (spQ K 3 fs_law_caught) := by
  have nd := sc_law_caught.nd
  refine fun_q (k := 3) F sc_law_caught 3 rfl (fun cdv A outer s H E hr tk => (qss_cons (qs_try_as (i := 3) (m := tab_ColumnError) rfl rfl nd rfl rfl ⟨by rfl, by decide, .inl Y.cm_ColumnError⟩ tk Y.ex_ColumnError (fun W1 pn xe tk po => (qss_one (qs_expr (qe_call C.law_raised hr (by decide) tk (by rfl) (qa_cons (qe_var 0) (qa_cons (qe_var 1) (qa_cons (qe_var 2) qa_nil))))))) (fun a oe cls d pn hN hv => have hz := L2N.Zn.zc hN; (qss_cons (qs_set (i := 4) nd rfl (by first | exact Or.inl rfl | exact Or.inr rfl) (qe_callX (hot_suite hN hv) List.mem_cons_self hz hv C.law_kin (L2H.room_hot hr _) (by decide) takes_noneN (by rfl) (qa_cons (qe_var 3) qa_nil)))
    (qss_cons (qs_setLcH (f := .frz) (i := 5) (hot_suite hN hv) nd rfl rfl (sw_true rfl rfl rfl (by decide +kernel)) (own := [("place", 6)]) (qi_range1H (L2H.pi_range1H (by rfl) B.range (qa_cons qe_int qa_nil))) (blkOk_by (N := N_law_caught) (sc := defScope s_law_caught) (by decide +kernel)) (fun _ _ _ _ _ => (qgv_name (i := 6) (by decide) nd rfl (by first | exact Or.inl rfl | exact Or.inr rfl))) (fun _ _ _ _ _ => qts_nil) (fun _ _ _ _ _ => (qe_cmp (op_eqD hr.units) ref_eq (qe_var 6) (qe_var 0) (nomark _))))
    (qss_one (qs_ret (qe_and (qe_cmp (op_eqD hr.units) ref_eq (qe_var 4) (qe_var 5) (nomark _)) (qe_and (qe_isX (m := isa_ValueError) Y.is_ValueError hz hv (qe_var 3) (pe_bltn (v := .ty "ValueError") (by rfl) B.ValueError (by rfl) rfl) (fun _ h => h) (by rfl) B.isinstance) (qe_one (qe_callX (hot_suite hN hv) List.mem_cons_self hz hv C.law_kept (L2H.room_hot hr _) (by decide) takes_noneN (by rfl) (qa_cons (qe_var 0) (qa_cons (qe_var 3) (qa_cons (qe_var 1) (qa_cons (qe_var 2) qa_nil))))))))))))))
    (qss_one (qs_ret qe_bl)))) (fun ds l Qd Ed hl h => ?_)
  obtain ⟨w, z, n, rfl, rfl, hw, hk, q⟩ := h
  walk_at "q"
  refine ⟨w, z, n, rfl, rfl, hw, fun l' => ?_⟩
  obtain ⟨x, ns, xs, hx, hm, hl⟩ := exOf_own (z := z) (n := n) hw
  have ht := (show ∀ x ∈ XS, tab_ColumnError x = some true by decide) x hm
  have hi := (show ∀ x ∈ XS, isa_ValueError x = true by decide) x hm
  rw [hx]
  refine .inl ⟨ht, fun a cls d => ?_⟩
  walk_at "q"
  refine ⟨x, ns, xs, rfl, rfl, hm, ?_⟩
  walk_at "q"
  refine lcI (fun i acc l => acc = (List.range i).map (fun p => .bl (decide (p = w))) ∧ l = []) (by rw [rangeD_len]; decide) ⟨rfl, rfl⟩ ?_ ?_
  · rintro i x acc l hx ha ⟨rfl, rfl⟩
    obtain ⟨hu, rfl⟩ := rangeD_get hx
    walk_at "q"
    refine ⟨⟨by simp, by omega⟩, ?_⟩
    rw [List.range_succ, List.map_append]
    congr 1
    show [D.bl (decide ((i : Int) = (w : Int)))] = [D.bl (decide (i = w))]
    congr 2
    exact decide_eq_decide.mpr ⟨fun h => by omega, fun h => by rw [h]⟩
  · rintro acc l ha ⟨rfl, rfl⟩
    walk_at "q"
    rw [hl]
    have hm8 : x ∈ (["BadBook", "BadProgram", "BadTask", "BadText", "NotThere", "NothingLeft", "TooMany", "UnknownWord"] : List Str) := by
      revert hm
      simp only [XS, List.mem_cons, List.not_mem_nil, or_false]
      intro h
      rcases h with h | h | h | h | h | h | h | h <;> subst h <;> decide
    have ok8 : dOk 60 (D.lst (List.map (fun p => D.bl (decide (p = w))) (List.range 8))) := by
      simp only [dOk_lst, List.mem_map, forall_exists_index, and_imp, forall_apply_eq_imp_iff₂, dOk_bl, implies_true]
    refine ⟨ok8, ok8, ?_⟩
    rw [if_pos (eq8 w hw)]
    refine ⟨x, ns, xs, rfl, hm8, ?_⟩
    rw [hi, if_pos rfl]
    refine ⟨w, z, n, by rw [hx], rfl, hw, hk, ?_⟩
    walk_at "q"
    exact q
theorem ok_law_bounds {f : Addr} {fd : FuncData} (F : Fun K "_law_bounds" "_law_bounds" s_law_bounds f fd) (B : Bt mg) (M : Mg K mg) : FnOk P w K mg base (L2N.CX P w) 1 f fd [] (spQ K 0 fs_law_bounds) := by
  have nd := sc_law_bounds.nd
  refine fun_q (k := 0) F sc_law_bounds 0 rfl (fun cdv A outer s H E hr tk => (qss_cons (qs_set (i := 0) nd rfl (by first | exact Or.inl rfl | exact Or.inr rfl) (qe_tup (qa_cons (qe_glob (by rfl) M.MOST_KINDS (fun _ => RD.int _)) (qa_cons (qe_glob (by rfl) M.MOST_WORDS (fun _ => RD.int _)) (qa_cons (qe_glob (by rfl) M.MOST_COLUMNS (fun _ => RD.int _)) (qa_cons (qe_glob (by rfl) M.MOST_LETTERS (fun _ => RD.int _)) (qa_cons (qe_glob (by rfl) M.MOST_OPS (fun _ => RD.int _)) (qa_cons (qe_glob (by rfl) M.MOST_TAKEN (fun _ => RD.int _)) (qa_cons (qe_glob (by rfl) M.MOST_ROWS (fun _ => RD.int _)) (qa_cons (qe_glob (by rfl) M.MOST_STATES (fun _ => RD.int _)) (qa_cons (qe_glob (by rfl) M.MOST_OPENED (fun _ => RD.int _)) (qa_cons (qe_glob (by rfl) M.MOST_PRICE (fun _ => RD.int _)) (qa_cons (qe_glob (by rfl) M.MOST_LIMIT (fun _ => RD.int _)) (qa_cons (qe_glob (by rfl) M.MOST_SYMBOLS (fun _ => RD.int _)) (qa_cons (qe_glob (by rfl) M.MOST_EXAMPLES (fun _ => RD.int _)) (qa_cons (qe_glob (by rfl) M.MOST_LENGTH (fun _ => RD.int _)) (qa_cons (qe_glob (by rfl) M.MOST_WEIGHT (fun _ => RD.int _)) (qa_cons (qe_glob (by rfl) M.MOST_PERSONS (fun _ => RD.int _)) (qa_cons (qe_glob (by rfl) M.MOST_SENTENCES (fun _ => RD.int _)) (qa_cons (qe_glob (by rfl) M.MOST_REFUSED (fun _ => RD.int _)) (qa_cons (qe_glob (by rfl) M.MOST_WAYS (fun _ => RD.int _)) (qa_cons (qe_glob (by rfl) M.MOST_JOINED (fun _ => RD.int _)) (qa_cons (qe_glob (by rfl) M.MOST_PAIRS (fun _ => RD.int _)) (qa_cons (qe_glob (by rfl) M.MOST_TUPLES (fun _ => RD.int _)) (qa_cons (qe_glob (by rfl) M.MOST_THINGS (fun _ => RD.int _)) (qa_cons (qe_glob (by rfl) M.MOST_INLINED (fun _ => RD.int _)) (qa_cons (qe_glob (by rfl) M.MOST_SKIPPED (fun _ => RD.int _)) (qa_cons (qe_glob (by rfl) M.MOST_PROBES (fun _ => RD.int _)) (qa_cons (qe_glob (by rfl) M.MOST_LISTED (fun _ => RD.int _)) (qa_cons (qe_glob (by rfl) M.MOST_PATTERNS (fun _ => RD.int _)) (qa_cons (qe_glob (by rfl) M.MOST_CORPUS (fun _ => RD.int _)) (qa_cons (qe_glob (by rfl) M.MOST_TEXT (fun _ => RD.int _)) (qa_cons (qe_glob (by rfl) M.MOST_PAPER (fun _ => RD.int _)) (qa_cons (qe_glob (by rfl) M.MOST_NESTED (fun _ => RD.int _)) (qa_cons (qe_glob (by rfl) M.MOST_LOTS (fun _ => RD.int _)) qa_nil)))))))))))))))))))))))))))))))))))
    (qss_cons (qs_set (i := 1) nd rfl (by first | exact Or.inl rfl | exact Or.inr rfl) (qe_tup (qa_cons qe_int (qa_cons qe_int (qa_cons qe_int (qa_cons qe_int (qa_cons qe_int (qa_cons qe_int (qa_cons qe_int (qa_cons qe_int (qa_cons qe_int (qa_cons qe_int (qa_cons qe_int (qa_cons qe_int (qa_cons qe_int (qa_cons qe_int (qa_cons qe_int (qa_cons qe_int (qa_cons qe_int (qa_cons qe_int (qa_cons qe_int (qa_cons qe_int (qa_cons qe_int (qa_cons qe_int (qa_cons qe_int (qa_cons qe_int (qa_cons qe_int (qa_cons qe_int (qa_cons qe_int (qa_cons qe_int (qa_cons qe_int (qa_cons qe_int (qa_cons qe_int (qa_cons qe_int (qa_cons qe_int qa_nil)))))))))))))))))))))))))))))))))))
    (qss_one (qs_ret (qe_cmp (op_eqD hr.units) ref_eq (qe_var 0) (qe_var 1) (nomark _))))))) (fun ds l Qd Ed hl h => ?_)
  obtain ⟨rfl, rfl, q⟩ := h
  walk_at "q"
  rw [D.eqv_self (by simp [noB])]
  exact q
structure Cs_law (P : Program) (w : World) (K : PySem.W.Frag) (mg : Str → Option Value) (base : Heap) : Prop where
  is_name : CalQ P w K mg base 2 "is_name" 1 fs_is_name
  law_purse : CalQ P w K mg base 2 "_law_purse" 1 fs_law_purse
  law_take : CalQ P w K mg base 1 "_law_take" 2 fs_law_take
  law_name : CalQ P w K mg base 2 "_law_name" 2 fs_law_name
  law_reserved : CalQ P w K mg base 1 "_law_reserved" 0 fs_law_reserved
  law_named : CalQ P w K mg base 2 "_law_named" 1 fs_law_named
  law_text : CalQ P w K mg base 2 "_law_text" 1 fs_law_text
  law_known : CalQ P w K mg base 2 "_law_known" 1 fs_law_known
  law_caught : CalQ P w K mg base 4 "_law_caught" 3 fs_law_caught
  law_bounds : CalQ P w K mg base 1 "_law_bounds" 0 fs_law_bounds
theorem ok_law {f : Addr} {fd : FuncData} (F : Fun K "law" "law" s_law f fd) (B : Bt mg) (C : Cs_law P w K mg base) (M : Mg K mg) : FnOk P w K mg base (L2N.CX P w) 5 f fd ["script"] (spQ K 1 fs_law) := by
  have nd := sc_law.nd
  refine fun_q (k := 4) F sc_law 1 rfl (fun cdv A outer s H E hr tk => (qss_cons (qs_set (i := 1) nd rfl (by first | exact Or.inl rfl | exact Or.inr rfl) (qe_call C.law_purse hr (by decide) tk (by rfl) (qa_cons (qe_var 0) qa_nil)))
    (qss_cons (qs_if (QW.qt (qw_or (qt_cmp (op_neD hr.units) ref_ne (qe_globT (by rfl) M.RESERVED) (qe_call0 C.law_reserved hr (by decide) tk (by rfl)) (nomark _)) (qw_or1 (qt_not (qt_val (qe_call0 C.law_bounds hr (by decide) tk (by rfl))))))) (qss_one (qs_ret qe_bl)) qss_nil)
    (qss_cons (qs_for (passes_of rfl) rfl (qi_range1 (pi_range1 (by rfl) B.range (qa_cons qe_int qa_nil))) (qg_name (i := 2) nd rfl (by first | exact Or.inl rfl | exact Or.inr rfl)) (qss_cons (qs_set (i := 3) nd rfl (by first | exact Or.inl rfl | exact Or.inr rfl) (qe_ifE (qt_cmp (op_gt) ref_B0 (qe_call C.law_take hr (by decide) tk (by rfl) (qa_cons (qe_var 1) (qa_cons qe_int qa_nil))) qe_int (nomark _)) (qe_call C.law_text hr (by decide) tk (by rfl) (qa_cons (qe_var 1) qa_nil)) (qe_call C.law_known hr (by decide) tk (by rfl) (qa_cons (qe_var 1) qa_nil))))
    (qss_cons (qs_set (i := 4) nd rfl (by first | exact Or.inl rfl | exact Or.inr rfl) (qe_call C.is_name hr (by decide) tk (by rfl) (qa_cons (qe_var 3) qa_nil)))
    (qss_one (qs_if (QW.qt (qw_or (qt_not (qt_val (qe_callB call_isi ref_isi (by rfl) B.isinstance (by decide +kernel) (qa_cons (qe_var 4) (qa_cons (qe_type (n := "bool") (by rfl) B.bool (by decide +kernel)) qa_nil))))) (qw_or1 (qt_cmp (op_neD hr.units) ref_ne (qe_var 4) (qe_call C.law_named hr (by decide) tk (by rfl) (qa_cons (qe_var 3) qa_nil)) (nomark _))))) (qss_one (qs_ret qe_bl)) qss_nil)))))
    (qss_cons (qs_for (passes_of rfl) rfl (qi_tup (pi_tup (qe_call0 C.law_reserved hr (by decide) tk (by rfl)))) (qg_name (i := 5) nd rfl (by first | exact Or.inl rfl | exact Or.inr rfl)) (qss_one (qs_if (QW.qt (qw_or (qt_val (qe_call C.is_name hr (by decide) tk (by rfl) (qa_cons (qe_var 5) qa_nil))) (qw_or1 (qt_not (qt_val (qe_call C.is_name hr (by decide) tk (by rfl) (qa_cons (qe_op op_add_str ref_catS (qe_var 5) qe_str) qa_nil))))))) (qss_one (qs_ret qe_bl)) qss_nil)))
    (qss_cons (qs_for (passes_of rfl) rfl (qi_range1 (pi_range1 (by rfl) B.range (qa_cons qe_int qa_nil))) (qg_name (i := 6) nd rfl (by first | exact Or.inl rfl | exact Or.inr rfl)) (qss_one (qs_if (qt_not (qt_val (qe_call C.law_caught hr (by decide) tk (by rfl) (qa_cons (qe_var 6) (qa_cons (qe_call C.law_name hr (by decide) tk (by rfl) (qa_cons (qe_var 1) (qa_cons (qe_var 6) qa_nil))) (qa_cons (qe_call C.law_take hr (by decide) tk (by rfl) (qa_cons (qe_var 1) (qa_cons qe_int qa_nil))) qa_nil)))))) (qss_one (qs_ret qe_bl)) qss_nil)))
    (qss_one (qs_ret qe_bl)))))))) (fun ds l Qd Ed hl h => ?_)
  obtain ⟨ns, rfl, rfl, hn, q⟩ := h
  walk_at "q"
  refine ⟨ns, rfl, rfl, hn, fun ns1 h1 h2 => ?_⟩
  have hp1 : Pur ns1 := ⟨h1, h2⟩
  walk_at "q"
  refine ⟨rfl, rfl, ?_⟩
  walk_at "q"
  have okR : dOk 60 (D.tup (List.map D.str RES)) := by
    simp only [dOk_tup, List.mem_map, forall_exists_index, and_imp, forall_apply_eq_imp_iff₂]
    exact (show ∀ z ∈ RES, PyData.strOk z = true by decide +kernel)
  refine ⟨okR, okR, ?_⟩
  rw [if_neg fun h => Bool.noConfusion (h.symm.trans (show _ = true from D.eqv_self (a := D.tup (List.map D.str RES)) (by simp [noB, RES])))]
  refine ⟨rfl, rfl, ?_⟩
  walk_at "q"
  refine loopR (fun i σ l => ∃ (ns' : List Int) (a b c d e : Option QL.P), σ = [some (.d (.scr (ns.map .int))), some (.loc 0), a, b, c, d, e] ∧ l = [.lst (ns'.map .int)] ∧ Pur ns') ⟨_, _, _, _, _, _, rfl, rfl, hp1⟩ ?_ ?_
  · rintro i σ l hi ⟨ns', a, b, c, d, e, rfl, rfl, hp⟩
    walk_at "q"
    refine ⟨_, _, rfl, rfl, hp, by omega, by omega, fun r ns2 r0 r1 hp2 => ?_⟩
    walk_at "q"
    split
    · refine ⟨ns2, rfl, rfl, hp2, fun z ns3 hz hp3 => ?_⟩
      walk_at "q"
      refine ⟨z, rfl, rfl, by omega, ?_⟩
      walk_at "q"
      refine ⟨z, rfl, rfl, by omega, ?_⟩
      walk_at "q"
      refine ⟨by simp [dOk_bl], by simp [dOk_bl], ?_⟩
      rw [D.eqv_bl, beq_self_eq_true, if_neg (by decide)]
      exact ⟨_, _, _, _, _, _, rfl, rfl, hp3⟩
    · refine ⟨ns2, rfl, rfl, hp2, fun z ns3 hz hp3 => ?_⟩
      walk_at "q"
      refine ⟨z, rfl, rfl, by omega, ?_⟩
      walk_at "q"
      refine ⟨z, rfl, rfl, by omega, ?_⟩
      walk_at "q"
      refine ⟨by simp [dOk_bl], by simp [dOk_bl], ?_⟩
      rw [D.eqv_bl, beq_self_eq_true, if_neg (by decide)]
      exact ⟨_, _, _, _, _, _, rfl, rfl, hp3⟩
  · rintro σ l ⟨ns', a, b, c, d, e, rfl, rfl, hp⟩
    walk_at "q"
    refine ⟨rfl, rfl, ?_⟩
    walk_at "q"
    refine loopX (fun i σ l => ∃ (ns' : List Int) (a b c d e : Option QL.P), σ = [some (.d (.scr (ns.map .int))), some (.loc 0), a, b, c, d, e] ∧ l = [.lst (ns'.map .int)] ∧ Pur ns') ⟨_, _, _, _, _, _, rfl, rfl, hp⟩ ?_ ?_
    · rintro i x σ l hx ⟨ns', a, b, c, d, e, rfl, rfl, hp⟩
      rw [List.getElem?_map] at hx
      obtain ⟨z, hz, rfl⟩ := Option.map_eq_some_iff.mp hx
      obtain ⟨n1, n2, n3⟩ := res_in z (List.mem_of_getElem? hz)
      walk_at "q"
      refine ⟨z, rfl, rfl, by omega, ?_⟩
      rw [n1]
      walk_at "q"
      have n4 : (z ++ Str.ofString "a").length = z.length + 1 := len_cat _ _
      refine ⟨Nat.le_trans (show z.length + 1 ≤ 100 by omega) (by decide), _, rfl, rfl, by omega, ?_⟩
      rw [n2]
      walk_at "q"
      exact ⟨_, _, _, _, _, _, rfl, rfl, hp⟩
    · rintro σ l ⟨ns', a, b, c, d, e, rfl, rfl, hp⟩
      walk_at "q"
      refine loopR (fun i σ l => ∃ (ns' : List Int) (a b c d e : Option QL.P), σ = [some (.d (.scr (ns.map .int))), some (.loc 0), a, b, c, d, e] ∧ l = [.lst (ns'.map .int)] ∧ Pur ns') ⟨_, _, _, _, _, _, rfl, rfl, hp⟩ ?_ ?_
      · rintro i σ l hi ⟨ns', a, b, c, d, e, rfl, rfl, hp⟩
        walk_at "q"
        refine ⟨ns', i, rfl, rfl, hp, by omega, fun z ns2 hz hk hp2 => ?_⟩
        walk_at "q"
        refine ⟨ns2, 100, rfl, rfl, hp2, by omega, by omega, fun r ns3 r0 r1 hp3 => ?_⟩
        walk_at "q"
        refine ⟨i, z, r, rfl, rfl, by omega, hk, ?_⟩
        walk_at "q"
        exact ⟨_, _, _, _, _, _, rfl, rfl, hp3⟩
      · rintro σ l ⟨ns', a, b, c, d, e, rfl, rfl, hp⟩
        walk_at "q"
        exact q
end
abbrev m_BadBook : Stmt := methS (top 44) 0
theorem g_BadBook : ∃ q1 q2 q3 q4 r1 r2 r3 r4, SupT m_BadBook ["self", "reason", "name"] ["self", "reason", "name"] [.Assign [.Attribute (.Name "self" q1) "reason" q2] (.Name "reason" q3) q4, .Assign [.Attribute (.Name "self" r1) "name" r2] (.Name "name" r3) r4] :=
  ⟨_, _, _, _, _, _, _, _, ⟨_, _, _, _, _, _, _, _, rfl, fun env => ⟨_, rfl⟩⟩, ⟨rfl, rfl, rfl, by decide +kernel, rfl, by decide +kernel, by decide +kernel, by decide +kernel, rfl, rfl⟩, ⟨_, rfl, rfl⟩⟩
abbrev m_BadProgram : Stmt := methS (top 45) 0
theorem g_BadProgram : ∃ q1 q2 q3 q4 r1 r2 r3 r4, SupT m_BadProgram ["self", "reason", "at"] ["self", "reason", "at"] [.Assign [.Attribute (.Name "self" q1) "reason" q2] (.Name "reason" q3) q4, .Assign [.Attribute (.Name "self" r1) "at" r2] (.Name "at" r3) r4] :=
  ⟨_, _, _, _, _, _, _, _, ⟨_, _, _, _, _, _, _, _, rfl, fun env => ⟨_, rfl⟩⟩, ⟨rfl, rfl, rfl, by decide +kernel, rfl, by decide +kernel, by decide +kernel, by decide +kernel, rfl, rfl⟩, ⟨_, rfl, rfl⟩⟩
abbrev m_BadTask : Stmt := methS (top 46) 0
theorem g_BadTask : ∃ q1 q2 q3 q4 r1 r2 r3 r4, SupT m_BadTask ["self", "reason", "number"] ["self", "reason", "number"] [.Assign [.Attribute (.Name "self" q1) "reason" q2] (.Name "reason" q3) q4, .Assign [.Attribute (.Name "self" r1) "number" r2] (.Name "number" r3) r4] :=
  ⟨_, _, _, _, _, _, _, _, ⟨_, _, _, _, _, _, _, _, rfl, fun env => ⟨_, rfl⟩⟩, ⟨rfl, rfl, rfl, by decide +kernel, rfl, by decide +kernel, by decide +kernel, by decide +kernel, rfl, rfl⟩, ⟨_, rfl, rfl⟩⟩
abbrev m_BadText : Stmt := methS (top 42) 0
theorem g_BadText : ∃ q1 q2 q3 q4, SupT m_BadText ["self", "at"] ["self", "at"] [.Assign [.Attribute (.Name "self" q1) "at" q2] (.Name "at" q3) q4] :=
  ⟨_, _, _, _, ⟨_, _, _, _, _, _, _, _, rfl, fun env => ⟨_, rfl⟩⟩, ⟨rfl, rfl, rfl, by decide +kernel, rfl, by decide +kernel, by decide +kernel, by decide +kernel, rfl, rfl⟩, ⟨_, rfl, rfl⟩⟩
abbrev m_NotThere : Stmt := methS (top 48) 0
theorem g_NotThere : ∃ q1 q2 q3 q4, SupT m_NotThere ["self", "number"] ["self", "number"] [.Assign [.Attribute (.Name "self" q1) "number" q2] (.Name "number" q3) q4] :=
  ⟨_, _, _, _, ⟨_, _, _, _, _, _, _, _, rfl, fun env => ⟨_, rfl⟩⟩, ⟨rfl, rfl, rfl, by decide +kernel, rfl, by decide +kernel, by decide +kernel, by decide +kernel, rfl, rfl⟩, ⟨_, rfl, rfl⟩⟩
abbrev m_NothingLeft : Stmt := methS (top 49) 0
theorem g_NothingLeft : ∃ q1 q2 q3 q4, SupT m_NothingLeft ["self", "word"] ["self", "word"] [.Assign [.Attribute (.Name "self" q1) "word" q2] (.Name "word" q3) q4] :=
  ⟨_, _, _, _, ⟨_, _, _, _, _, _, _, _, rfl, fun env => ⟨_, rfl⟩⟩, ⟨rfl, rfl, rfl, by decide +kernel, rfl, by decide +kernel, by decide +kernel, by decide +kernel, rfl, rfl⟩, ⟨_, rfl, rfl⟩⟩
abbrev m_TooMany : Stmt := methS (top 47) 0
theorem g_TooMany : ∃ q1 q2 q3 q4, SupT m_TooMany ["self", "limit"] ["self", "limit"] [.Assign [.Attribute (.Name "self" q1) "limit" q2] (.Name "limit" q3) q4] :=
  ⟨_, _, _, _, ⟨_, _, _, _, _, _, _, _, rfl, fun env => ⟨_, rfl⟩⟩, ⟨rfl, rfl, rfl, by decide +kernel, rfl, by decide +kernel, by decide +kernel, by decide +kernel, rfl, rfl⟩, ⟨_, rfl, rfl⟩⟩
abbrev m_UnknownWord : Stmt := methS (top 43) 0
theorem g_UnknownWord : ∃ q1 q2 q3 q4, SupT m_UnknownWord ["self", "at"] ["self", "at"] [.Assign [.Attribute (.Name "self" q1) "at" q2] (.Name "at" q3) q4] :=
  ⟨_, _, _, _, ⟨_, _, _, _, _, _, _, _, rfl, fun env => ⟨_, rfl⟩⟩, ⟨rfl, rfl, rfl, by decide +kernel, rfl, by decide +kernel, by decide +kernel, by decide +kernel, rfl, rfl⟩, ⟨_, rfl, rfl⟩⟩
set_option maxHeartbeats 0 in
theorem all_mk {l : PySem.W.OpenLaw} {w : World} {K : PySem.W.Frag} {h : Heap} {mg : Str → Option Value} {fa f0 f1 f2 f3 f4 f5 f6 f7 f8 f9 f10 f11 f12 f13 f14 f15 : Addr} (X : K.In h) (G : h.Ns mainGlobals mg) (hfa : mg "law" = some (.ref fa))
    {od0 an0 od1 an1 od2 an2 od3 an3 od4 an4 od5 an5 od6 an6 od7 an7 od8 an8 od9 an9 od10 an10 od11 an11 od12 an12 od13 an13 od14 an14 od15 an15 : Option Addr} {sl0 sl1 sl2 sl3 sl4 sl5 sl6 sl7 sl8 sl9 sl10 sl11 sl12 sl13 sl14 sl15 : Array (Option Value)} {oc0 kV0 dc0 pm0 cd0 ct0 oc1 kV1 dc1 pm1 cd1 ct1 oc2 kV2 dc2 pm2 cd2 ct2 oc3 kV3 dc3 pm3 cd3 ct3 oc4 kV4 dc4 pm4 cd4 ct4 oc5 kV5 dc5 pm5 cd5 ct5 oc6 kV6 dc6 pm6 cd6 ct6 oc7 kV7 dc7 pm7 cd7 ct7 oc8 kV8 dc8 pm8 cd8 ct8 oc9 kV9 dc9 pm9 cd9 ct9 oc10 kV10 dc10 pm10 cd10 ct10 oc11 kV11 dc11 pm11 cd11 ct11 oc12 kV12 dc12 pm12 cd12 ct12 oc13 kV13 dc13 pm13 cd13 ct13 oc14 kV14 dc14 pm14 cd14 ct14 oc15 kV15 dc15 pm15 cd15 ct15 : Value}
    {C0 C1 C2 C3 C4 C5 C6 C7 C8 : Addr}
    (aC0 : PySem.W.nsIn K mainGlobals "BadBook" = some (some (.ref C0)))
    (aC1 : PySem.W.nsIn K mainGlobals "BadProgram" = some (some (.ref C1)))
    (aC2 : PySem.W.nsIn K mainGlobals "BadTask" = some (some (.ref C2)))
    (aC3 : PySem.W.nsIn K mainGlobals "BadText" = some (some (.ref C3)))
    (aC4 : PySem.W.nsIn K mainGlobals "ColumnError" = some (some (.ref C4)))
    (aC5 : PySem.W.nsIn K mainGlobals "NotThere" = some (some (.ref C5)))
    (aC6 : PySem.W.nsIn K mainGlobals "NothingLeft" = some (some (.ref C6)))
    (aC7 : PySem.W.nsIn K mainGlobals "TooMany" = some (some (.ref C7)))
    (aC8 : PySem.W.nsIn K mainGlobals "UnknownWord" = some (some (.ref C8)))
    {fI0 cda0 cc0 : Addr} {xoc0 xkV0 xdc0 xpm0 xct0 ccl0 xcl0 : Value} {xod0 xan0 cdd0 cld0 : Option Addr} {xsl0 csl0 ccs0 : Array (Option Value)} {vs0 : Array Value} {file0 : Str} {tf0 : Tok}
    (bC0 : clsB K C0 = true)
    (iC0 : PySem.W.findIn K (.ref C0) "__init__" = some (some (.ref fI0)))
    (tI0 : PySem.W.typeIn K (.ref fI0) = some (.type "function"))
    (lI0 : K.lookup fI0 = some ⟨xoc0, xod0, .func (PySem.W.ksFn "__init__" "BadBook.__init__" (defArgs m_BadBook) (defBody m_BadBook) (defScope m_BadBook) .none xkV0 xdc0 xpm0 xan0 (.ref cda0) xct0 cc0), xsl0⟩)
    (cI0 : PySem.W.codeIn K (.ref cda0) "BadBook.__init__" = true)
    (dI0 : K.lookup cda0 = some ⟨ccl0, cdd0, .fields vs0, ccs0⟩)
    (vI0 : vs0[2]? = some (.str file0 tf0))
    (eI0 : ((l.prog.main.file : Str) == file0) = true)
    (kI0 : K.lookup cc0 = some ⟨xcl0, cld0, .cell (some (.ref C0)), csl0⟩)
    (sI0 : PySem.W.ks_superIn K C0 C0 "__init__" = some (some (.builtin "ValueError.__init__")))
    (bI0 : PySem.W.subIn K (.ref C0) (.type "ValueError") = some true)
    (n0_name : PySem.W.findIn K (.ref C0) "name" = some none)
    (n0_reason : PySem.W.findIn K (.ref C0) "reason" = some none)
    {fI1 cda1 cc1 : Addr} {xoc1 xkV1 xdc1 xpm1 xct1 ccl1 xcl1 : Value} {xod1 xan1 cdd1 cld1 : Option Addr} {xsl1 csl1 ccs1 : Array (Option Value)} {vs1 : Array Value} {file1 : Str} {tf1 : Tok}
    (bC1 : clsB K C1 = true)
    (iC1 : PySem.W.findIn K (.ref C1) "__init__" = some (some (.ref fI1)))
    (tI1 : PySem.W.typeIn K (.ref fI1) = some (.type "function"))
    (lI1 : K.lookup fI1 = some ⟨xoc1, xod1, .func (PySem.W.ksFn "__init__" "BadProgram.__init__" (defArgs m_BadProgram) (defBody m_BadProgram) (defScope m_BadProgram) .none xkV1 xdc1 xpm1 xan1 (.ref cda1) xct1 cc1), xsl1⟩)
    (cI1 : PySem.W.codeIn K (.ref cda1) "BadProgram.__init__" = true)
    (dI1 : K.lookup cda1 = some ⟨ccl1, cdd1, .fields vs1, ccs1⟩)
    (vI1 : vs1[2]? = some (.str file1 tf1))
    (eI1 : ((l.prog.main.file : Str) == file1) = true)
    (kI1 : K.lookup cc1 = some ⟨xcl1, cld1, .cell (some (.ref C1)), csl1⟩)
    (sI1 : PySem.W.ks_superIn K C1 C1 "__init__" = some (some (.builtin "ValueError.__init__")))
    (bI1 : PySem.W.subIn K (.ref C1) (.type "ValueError") = some true)
    (n1_at : PySem.W.findIn K (.ref C1) "at" = some none)
    (n1_reason : PySem.W.findIn K (.ref C1) "reason" = some none)
    {fI2 cda2 cc2 : Addr} {xoc2 xkV2 xdc2 xpm2 xct2 ccl2 xcl2 : Value} {xod2 xan2 cdd2 cld2 : Option Addr} {xsl2 csl2 ccs2 : Array (Option Value)} {vs2 : Array Value} {file2 : Str} {tf2 : Tok}
    (bC2 : clsB K C2 = true)
    (iC2 : PySem.W.findIn K (.ref C2) "__init__" = some (some (.ref fI2)))
    (tI2 : PySem.W.typeIn K (.ref fI2) = some (.type "function"))
    (lI2 : K.lookup fI2 = some ⟨xoc2, xod2, .func (PySem.W.ksFn "__init__" "BadTask.__init__" (defArgs m_BadTask) (defBody m_BadTask) (defScope m_BadTask) .none xkV2 xdc2 xpm2 xan2 (.ref cda2) xct2 cc2), xsl2⟩)
    (cI2 : PySem.W.codeIn K (.ref cda2) "BadTask.__init__" = true)
    (dI2 : K.lookup cda2 = some ⟨ccl2, cdd2, .fields vs2, ccs2⟩)
    (vI2 : vs2[2]? = some (.str file2 tf2))
    (eI2 : ((l.prog.main.file : Str) == file2) = true)
    (kI2 : K.lookup cc2 = some ⟨xcl2, cld2, .cell (some (.ref C2)), csl2⟩)
    (sI2 : PySem.W.ks_superIn K C2 C2 "__init__" = some (some (.builtin "ValueError.__init__")))
    (bI2 : PySem.W.subIn K (.ref C2) (.type "ValueError") = some true)
    (n2_number : PySem.W.findIn K (.ref C2) "number" = some none)
    (n2_reason : PySem.W.findIn K (.ref C2) "reason" = some none)
    {fI3 cda3 cc3 : Addr} {xoc3 xkV3 xdc3 xpm3 xct3 ccl3 xcl3 : Value} {xod3 xan3 cdd3 cld3 : Option Addr} {xsl3 csl3 ccs3 : Array (Option Value)} {vs3 : Array Value} {file3 : Str} {tf3 : Tok}
    (bC3 : clsB K C3 = true)
    (iC3 : PySem.W.findIn K (.ref C3) "__init__" = some (some (.ref fI3)))
    (tI3 : PySem.W.typeIn K (.ref fI3) = some (.type "function"))
    (lI3 : K.lookup fI3 = some ⟨xoc3, xod3, .func (PySem.W.ksFn "__init__" "BadText.__init__" (defArgs m_BadText) (defBody m_BadText) (defScope m_BadText) .none xkV3 xdc3 xpm3 xan3 (.ref cda3) xct3 cc3), xsl3⟩)
    (cI3 : PySem.W.codeIn K (.ref cda3) "BadText.__init__" = true)
    (dI3 : K.lookup cda3 = some ⟨ccl3, cdd3, .fields vs3, ccs3⟩)
    (vI3 : vs3[2]? = some (.str file3 tf3))
    (eI3 : ((l.prog.main.file : Str) == file3) = true)
    (kI3 : K.lookup cc3 = some ⟨xcl3, cld3, .cell (some (.ref C3)), csl3⟩)
    (sI3 : PySem.W.ks_superIn K C3 C3 "__init__" = some (some (.builtin "ValueError.__init__")))
    (bI3 : PySem.W.subIn K (.ref C3) (.type "ValueError") = some true)
    (n3_at : PySem.W.findIn K (.ref C3) "at" = some none)
    {fI5 cda5 cc5 : Addr} {xoc5 xkV5 xdc5 xpm5 xct5 ccl5 xcl5 : Value} {xod5 xan5 cdd5 cld5 : Option Addr} {xsl5 csl5 ccs5 : Array (Option Value)} {vs5 : Array Value} {file5 : Str} {tf5 : Tok}
    (bC5 : clsB K C5 = true)
    (iC5 : PySem.W.findIn K (.ref C5) "__init__" = some (some (.ref fI5)))
    (tI5 : PySem.W.typeIn K (.ref fI5) = some (.type "function"))
    (lI5 : K.lookup fI5 = some ⟨xoc5, xod5, .func (PySem.W.ksFn "__init__" "NotThere.__init__" (defArgs m_NotThere) (defBody m_NotThere) (defScope m_NotThere) .none xkV5 xdc5 xpm5 xan5 (.ref cda5) xct5 cc5), xsl5⟩)
    (cI5 : PySem.W.codeIn K (.ref cda5) "NotThere.__init__" = true)
    (dI5 : K.lookup cda5 = some ⟨ccl5, cdd5, .fields vs5, ccs5⟩)
    (vI5 : vs5[2]? = some (.str file5 tf5))
    (eI5 : ((l.prog.main.file : Str) == file5) = true)
    (kI5 : K.lookup cc5 = some ⟨xcl5, cld5, .cell (some (.ref C5)), csl5⟩)
    (sI5 : PySem.W.ks_superIn K C5 C5 "__init__" = some (some (.builtin "ValueError.__init__")))
    (bI5 : PySem.W.subIn K (.ref C5) (.type "ValueError") = some true)
    (n5_number : PySem.W.findIn K (.ref C5) "number" = some none)
    {fI6 cda6 cc6 : Addr} {xoc6 xkV6 xdc6 xpm6 xct6 ccl6 xcl6 : Value} {xod6 xan6 cdd6 cld6 : Option Addr} {xsl6 csl6 ccs6 : Array (Option Value)} {vs6 : Array Value} {file6 : Str} {tf6 : Tok}
    (bC6 : clsB K C6 = true)
    (iC6 : PySem.W.findIn K (.ref C6) "__init__" = some (some (.ref fI6)))
    (tI6 : PySem.W.typeIn K (.ref fI6) = some (.type "function"))
    (lI6 : K.lookup fI6 = some ⟨xoc6, xod6, .func (PySem.W.ksFn "__init__" "NothingLeft.__init__" (defArgs m_NothingLeft) (defBody m_NothingLeft) (defScope m_NothingLeft) .none xkV6 xdc6 xpm6 xan6 (.ref cda6) xct6 cc6), xsl6⟩)
    (cI6 : PySem.W.codeIn K (.ref cda6) "NothingLeft.__init__" = true)
    (dI6 : K.lookup cda6 = some ⟨ccl6, cdd6, .fields vs6, ccs6⟩)
    (vI6 : vs6[2]? = some (.str file6 tf6))
    (eI6 : ((l.prog.main.file : Str) == file6) = true)
    (kI6 : K.lookup cc6 = some ⟨xcl6, cld6, .cell (some (.ref C6)), csl6⟩)
    (sI6 : PySem.W.ks_superIn K C6 C6 "__init__" = some (some (.builtin "ValueError.__init__")))
    (bI6 : PySem.W.subIn K (.ref C6) (.type "ValueError") = some true)
    (n6_word : PySem.W.findIn K (.ref C6) "word" = some none)
    {fI7 cda7 cc7 : Addr} {xoc7 xkV7 xdc7 xpm7 xct7 ccl7 xcl7 : Value} {xod7 xan7 cdd7 cld7 : Option Addr} {xsl7 csl7 ccs7 : Array (Option Value)} {vs7 : Array Value} {file7 : Str} {tf7 : Tok}
    (bC7 : clsB K C7 = true)
    (iC7 : PySem.W.findIn K (.ref C7) "__init__" = some (some (.ref fI7)))
    (tI7 : PySem.W.typeIn K (.ref fI7) = some (.type "function"))
    (lI7 : K.lookup fI7 = some ⟨xoc7, xod7, .func (PySem.W.ksFn "__init__" "TooMany.__init__" (defArgs m_TooMany) (defBody m_TooMany) (defScope m_TooMany) .none xkV7 xdc7 xpm7 xan7 (.ref cda7) xct7 cc7), xsl7⟩)
    (cI7 : PySem.W.codeIn K (.ref cda7) "TooMany.__init__" = true)
    (dI7 : K.lookup cda7 = some ⟨ccl7, cdd7, .fields vs7, ccs7⟩)
    (vI7 : vs7[2]? = some (.str file7 tf7))
    (eI7 : ((l.prog.main.file : Str) == file7) = true)
    (kI7 : K.lookup cc7 = some ⟨xcl7, cld7, .cell (some (.ref C7)), csl7⟩)
    (sI7 : PySem.W.ks_superIn K C7 C7 "__init__" = some (some (.builtin "ValueError.__init__")))
    (bI7 : PySem.W.subIn K (.ref C7) (.type "ValueError") = some true)
    (n7_limit : PySem.W.findIn K (.ref C7) "limit" = some none)
    {fI8 cda8 cc8 : Addr} {xoc8 xkV8 xdc8 xpm8 xct8 ccl8 xcl8 : Value} {xod8 xan8 cdd8 cld8 : Option Addr} {xsl8 csl8 ccs8 : Array (Option Value)} {vs8 : Array Value} {file8 : Str} {tf8 : Tok}
    (bC8 : clsB K C8 = true)
    (iC8 : PySem.W.findIn K (.ref C8) "__init__" = some (some (.ref fI8)))
    (tI8 : PySem.W.typeIn K (.ref fI8) = some (.type "function"))
    (lI8 : K.lookup fI8 = some ⟨xoc8, xod8, .func (PySem.W.ksFn "__init__" "UnknownWord.__init__" (defArgs m_UnknownWord) (defBody m_UnknownWord) (defScope m_UnknownWord) .none xkV8 xdc8 xpm8 xan8 (.ref cda8) xct8 cc8), xsl8⟩)
    (cI8 : PySem.W.codeIn K (.ref cda8) "UnknownWord.__init__" = true)
    (dI8 : K.lookup cda8 = some ⟨ccl8, cdd8, .fields vs8, ccs8⟩)
    (vI8 : vs8[2]? = some (.str file8 tf8))
    (eI8 : ((l.prog.main.file : Str) == file8) = true)
    (kI8 : K.lookup cc8 = some ⟨xcl8, cld8, .cell (some (.ref C8)), csl8⟩)
    (sI8 : PySem.W.ks_superIn K C8 C8 "__init__" = some (some (.builtin "ValueError.__init__")))
    (bI8 : PySem.W.subIn K (.ref C8) (.type "ValueError") = some true)
    (n8_at : PySem.W.findIn K (.ref C8) "at" = some none)
    (hI : (l.prog.main.scope.names.lookup ("super" : Str)).isSome = false)
    (oI : PySem.W.nsIn K cStatics "thirdparty.any" = some none)
    (zI : PySem.W.nsIn K mainGlobals "super" = some none)
    (x0_4 : PySem.W.exmOne K (.ref C0) (.ref C4) = some true)
    (x1_4 : PySem.W.exmOne K (.ref C1) (.ref C4) = some true)
    (x2_4 : PySem.W.exmOne K (.ref C2) (.ref C4) = some true)
    (x3_4 : PySem.W.exmOne K (.ref C3) (.ref C4) = some true)
    (x5_4 : PySem.W.exmOne K (.ref C5) (.ref C4) = some true)
    (x6_4 : PySem.W.exmOne K (.ref C6) (.ref C4) = some true)
    (x7_4 : PySem.W.exmOne K (.ref C7) (.ref C4) = some true)
    (x8_4 : PySem.W.exmOne K (.ref C8) (.ref C4) = some true)
    (t0_BadBook : PySem.W.kitOne K (.ref C0) (.ref C0) = some (isa_BadBook "BadBook"))
    (t1_BadBook : PySem.W.kitOne K (.ref C1) (.ref C0) = some (isa_BadBook "BadProgram"))
    (t2_BadBook : PySem.W.kitOne K (.ref C2) (.ref C0) = some (isa_BadBook "BadTask"))
    (t3_BadBook : PySem.W.kitOne K (.ref C3) (.ref C0) = some (isa_BadBook "BadText"))
    (t5_BadBook : PySem.W.kitOne K (.ref C5) (.ref C0) = some (isa_BadBook "NotThere"))
    (t6_BadBook : PySem.W.kitOne K (.ref C6) (.ref C0) = some (isa_BadBook "NothingLeft"))
    (t7_BadBook : PySem.W.kitOne K (.ref C7) (.ref C0) = some (isa_BadBook "TooMany"))
    (t8_BadBook : PySem.W.kitOne K (.ref C8) (.ref C0) = some (isa_BadBook "UnknownWord"))
    (t0_BadProgram : PySem.W.kitOne K (.ref C0) (.ref C1) = some (isa_BadProgram "BadBook"))
    (t1_BadProgram : PySem.W.kitOne K (.ref C1) (.ref C1) = some (isa_BadProgram "BadProgram"))
    (t2_BadProgram : PySem.W.kitOne K (.ref C2) (.ref C1) = some (isa_BadProgram "BadTask"))
    (t3_BadProgram : PySem.W.kitOne K (.ref C3) (.ref C1) = some (isa_BadProgram "BadText"))
    (t5_BadProgram : PySem.W.kitOne K (.ref C5) (.ref C1) = some (isa_BadProgram "NotThere"))
    (t6_BadProgram : PySem.W.kitOne K (.ref C6) (.ref C1) = some (isa_BadProgram "NothingLeft"))
    (t7_BadProgram : PySem.W.kitOne K (.ref C7) (.ref C1) = some (isa_BadProgram "TooMany"))
    (t8_BadProgram : PySem.W.kitOne K (.ref C8) (.ref C1) = some (isa_BadProgram "UnknownWord"))
    (t0_BadTask : PySem.W.kitOne K (.ref C0) (.ref C2) = some (isa_BadTask "BadBook"))
    (t1_BadTask : PySem.W.kitOne K (.ref C1) (.ref C2) = some (isa_BadTask "BadProgram"))
    (t2_BadTask : PySem.W.kitOne K (.ref C2) (.ref C2) = some (isa_BadTask "BadTask"))
    (t3_BadTask : PySem.W.kitOne K (.ref C3) (.ref C2) = some (isa_BadTask "BadText"))
    (t5_BadTask : PySem.W.kitOne K (.ref C5) (.ref C2) = some (isa_BadTask "NotThere"))
    (t6_BadTask : PySem.W.kitOne K (.ref C6) (.ref C2) = some (isa_BadTask "NothingLeft"))
    (t7_BadTask : PySem.W.kitOne K (.ref C7) (.ref C2) = some (isa_BadTask "TooMany"))
    (t8_BadTask : PySem.W.kitOne K (.ref C8) (.ref C2) = some (isa_BadTask "UnknownWord"))
    (t0_BadText : PySem.W.kitOne K (.ref C0) (.ref C3) = some (isa_BadText "BadBook"))
    (t1_BadText : PySem.W.kitOne K (.ref C1) (.ref C3) = some (isa_BadText "BadProgram"))
    (t2_BadText : PySem.W.kitOne K (.ref C2) (.ref C3) = some (isa_BadText "BadTask"))
    (t3_BadText : PySem.W.kitOne K (.ref C3) (.ref C3) = some (isa_BadText "BadText"))
    (t5_BadText : PySem.W.kitOne K (.ref C5) (.ref C3) = some (isa_BadText "NotThere"))
    (t6_BadText : PySem.W.kitOne K (.ref C6) (.ref C3) = some (isa_BadText "NothingLeft"))
    (t7_BadText : PySem.W.kitOne K (.ref C7) (.ref C3) = some (isa_BadText "TooMany"))
    (t8_BadText : PySem.W.kitOne K (.ref C8) (.ref C3) = some (isa_BadText "UnknownWord"))
    (t0_NotThere : PySem.W.kitOne K (.ref C0) (.ref C5) = some (isa_NotThere "BadBook"))
    (t1_NotThere : PySem.W.kitOne K (.ref C1) (.ref C5) = some (isa_NotThere "BadProgram"))
    (t2_NotThere : PySem.W.kitOne K (.ref C2) (.ref C5) = some (isa_NotThere "BadTask"))
    (t3_NotThere : PySem.W.kitOne K (.ref C3) (.ref C5) = some (isa_NotThere "BadText"))
    (t5_NotThere : PySem.W.kitOne K (.ref C5) (.ref C5) = some (isa_NotThere "NotThere"))
    (t6_NotThere : PySem.W.kitOne K (.ref C6) (.ref C5) = some (isa_NotThere "NothingLeft"))
    (t7_NotThere : PySem.W.kitOne K (.ref C7) (.ref C5) = some (isa_NotThere "TooMany"))
    (t8_NotThere : PySem.W.kitOne K (.ref C8) (.ref C5) = some (isa_NotThere "UnknownWord"))
    (t0_NothingLeft : PySem.W.kitOne K (.ref C0) (.ref C6) = some (isa_NothingLeft "BadBook"))
    (t1_NothingLeft : PySem.W.kitOne K (.ref C1) (.ref C6) = some (isa_NothingLeft "BadProgram"))
    (t2_NothingLeft : PySem.W.kitOne K (.ref C2) (.ref C6) = some (isa_NothingLeft "BadTask"))
    (t3_NothingLeft : PySem.W.kitOne K (.ref C3) (.ref C6) = some (isa_NothingLeft "BadText"))
    (t5_NothingLeft : PySem.W.kitOne K (.ref C5) (.ref C6) = some (isa_NothingLeft "NotThere"))
    (t6_NothingLeft : PySem.W.kitOne K (.ref C6) (.ref C6) = some (isa_NothingLeft "NothingLeft"))
    (t7_NothingLeft : PySem.W.kitOne K (.ref C7) (.ref C6) = some (isa_NothingLeft "TooMany"))
    (t8_NothingLeft : PySem.W.kitOne K (.ref C8) (.ref C6) = some (isa_NothingLeft "UnknownWord"))
    (t0_TooMany : PySem.W.kitOne K (.ref C0) (.ref C7) = some (isa_TooMany "BadBook"))
    (t1_TooMany : PySem.W.kitOne K (.ref C1) (.ref C7) = some (isa_TooMany "BadProgram"))
    (t2_TooMany : PySem.W.kitOne K (.ref C2) (.ref C7) = some (isa_TooMany "BadTask"))
    (t3_TooMany : PySem.W.kitOne K (.ref C3) (.ref C7) = some (isa_TooMany "BadText"))
    (t5_TooMany : PySem.W.kitOne K (.ref C5) (.ref C7) = some (isa_TooMany "NotThere"))
    (t6_TooMany : PySem.W.kitOne K (.ref C6) (.ref C7) = some (isa_TooMany "NothingLeft"))
    (t7_TooMany : PySem.W.kitOne K (.ref C7) (.ref C7) = some (isa_TooMany "TooMany"))
    (t8_TooMany : PySem.W.kitOne K (.ref C8) (.ref C7) = some (isa_TooMany "UnknownWord"))
    (t0_UnknownWord : PySem.W.kitOne K (.ref C0) (.ref C8) = some (isa_UnknownWord "BadBook"))
    (t1_UnknownWord : PySem.W.kitOne K (.ref C1) (.ref C8) = some (isa_UnknownWord "BadProgram"))
    (t2_UnknownWord : PySem.W.kitOne K (.ref C2) (.ref C8) = some (isa_UnknownWord "BadTask"))
    (t3_UnknownWord : PySem.W.kitOne K (.ref C3) (.ref C8) = some (isa_UnknownWord "BadText"))
    (t5_UnknownWord : PySem.W.kitOne K (.ref C5) (.ref C8) = some (isa_UnknownWord "NotThere"))
    (t6_UnknownWord : PySem.W.kitOne K (.ref C6) (.ref C8) = some (isa_UnknownWord "NothingLeft"))
    (t7_UnknownWord : PySem.W.kitOne K (.ref C7) (.ref C8) = some (isa_UnknownWord "TooMany"))
    (t8_UnknownWord : PySem.W.kitOne K (.ref C8) (.ref C8) = some (isa_UnknownWord "UnknownWord"))
    (t0_ValueError : PySem.W.kitOne K (.ref C0) (.type "ValueError") = some (isa_ValueError "BadBook"))
    (t1_ValueError : PySem.W.kitOne K (.ref C1) (.type "ValueError") = some (isa_ValueError "BadProgram"))
    (t2_ValueError : PySem.W.kitOne K (.ref C2) (.type "ValueError") = some (isa_ValueError "BadTask"))
    (t3_ValueError : PySem.W.kitOne K (.ref C3) (.type "ValueError") = some (isa_ValueError "BadText"))
    (t5_ValueError : PySem.W.kitOne K (.ref C5) (.type "ValueError") = some (isa_ValueError "NotThere"))
    (t6_ValueError : PySem.W.kitOne K (.ref C6) (.type "ValueError") = some (isa_ValueError "NothingLeft"))
    (t7_ValueError : PySem.W.kitOne K (.ref C7) (.type "ValueError") = some (isa_ValueError "TooMany"))
    (t8_ValueError : PySem.W.kitOne K (.ref C8) (.type "ValueError") = some (isa_ValueError "UnknownWord"))
    {gu0 : Value}
    (gc0 : PySem.W.nsIn K mainGlobals "FIGURES" = some (some gu0))
    (gr0 : RelV (.str "0123456789") gu0)
    {gu1 : Value}
    (gc1 : PySem.W.nsIn K mainGlobals "LONGEST" = some (some gu1))
    (gr1 : RelV (.int 12) gu1)
    {gu2 : Value}
    (gc2 : PySem.W.nsIn K mainGlobals "MOST_COLUMNS" = some (some gu2))
    (gr2 : RelV (.int 3) gu2)
    {gu3 : Value}
    (gc3 : PySem.W.nsIn K mainGlobals "MOST_CORPUS" = some (some gu3))
    (gr3 : RelV (.int 8) gu3)
    {gu4 : Value}
    (gc4 : PySem.W.nsIn K mainGlobals "MOST_EXAMPLES" = some (some gu4))
    (gr4 : RelV (.int 8) gu4)
    {gu5 : Value}
    (gc5 : PySem.W.nsIn K mainGlobals "MOST_INLINED" = some (some gu5))
    (gr5 : RelV (.int 400) gu5)
    {gu6 : Value}
    (gc6 : PySem.W.nsIn K mainGlobals "MOST_JOINED" = some (some gu6))
    (gr6 : RelV (.int 400) gu6)
    {gu7 : Value}
    (gc7 : PySem.W.nsIn K mainGlobals "MOST_KINDS" = some (some gu7))
    (gr7 : RelV (.int 6) gu7)
    {gu8 : Value}
    (gc8 : PySem.W.nsIn K mainGlobals "MOST_LENGTH" = some (some gu8))
    (gr8 : RelV (.int 8) gu8)
    {gu9 : Value}
    (gc9 : PySem.W.nsIn K mainGlobals "MOST_LETTERS" = some (some gu9))
    (gr9 : RelV (.int 24) gu9)
    {gu10 : Value}
    (gc10 : PySem.W.nsIn K mainGlobals "MOST_LIMIT" = some (some gu10))
    (gr10 : RelV (.int 24) gu10)
    {gu11 : Value}
    (gc11 : PySem.W.nsIn K mainGlobals "MOST_LISTED" = some (some gu11))
    (gr11 : RelV (.int 2000) gu11)
    {gu12 : Value}
    (gc12 : PySem.W.nsIn K mainGlobals "MOST_LOTS" = some (some gu12))
    (gr12 : RelV (.int 200) gu12)
    {gu13 : Value}
    (gc13 : PySem.W.nsIn K mainGlobals "MOST_NESTED" = some (some gu13))
    (gr13 : RelV (.int 50) gu13)
    {gu14 : Value}
    (gc14 : PySem.W.nsIn K mainGlobals "MOST_OPENED" = some (some gu14))
    (gr14 : RelV (.int 40) gu14)
    {gu15 : Value}
    (gc15 : PySem.W.nsIn K mainGlobals "MOST_OPS" = some (some gu15))
    (gr15 : RelV (.int 16) gu15)
    {gu16 : Value}
    (gc16 : PySem.W.nsIn K mainGlobals "MOST_PAIRS" = some (some gu16))
    (gr16 : RelV (.int 4000) gu16)
    {gu17 : Value}
    (gc17 : PySem.W.nsIn K mainGlobals "MOST_PAPER" = some (some gu17))
    (gr17 : RelV (.int 200000) gu17)
    {gu18 : Value}
    (gc18 : PySem.W.nsIn K mainGlobals "MOST_PATTERNS" = some (some gu18))
    (gr18 : RelV (.int 2000) gu18)
    {gu19 : Value}
    (gc19 : PySem.W.nsIn K mainGlobals "MOST_PERSONS" = some (some gu19))
    (gr19 : RelV (.int 4) gu19)
    {gu20 : Value}
    (gc20 : PySem.W.nsIn K mainGlobals "MOST_PRICE" = some (some gu20))
    (gr20 : RelV (.int 9) gu20)
    {gu21 : Value}
    (gc21 : PySem.W.nsIn K mainGlobals "MOST_PROBES" = some (some gu21))
    (gr21 : RelV (.int 64) gu21)
    {gu22 : Value}
    (gc22 : PySem.W.nsIn K mainGlobals "MOST_REFUSED" = some (some gu22))
    (gr22 : RelV (.int 8) gu22)
    {gu23 : Value}
    (gc23 : PySem.W.nsIn K mainGlobals "MOST_ROWS" = some (some gu23))
    (gr23 : RelV (.int 36) gu23)
    {gu24 : Value}
    (gc24 : PySem.W.nsIn K mainGlobals "MOST_SENTENCES" = some (some gu24))
    (gr24 : RelV (.int 4) gu24)
    {gu25 : Value}
    (gc25 : PySem.W.nsIn K mainGlobals "MOST_SKIPPED" = some (some gu25))
    (gr25 : RelV (.int 64) gu25)
    {gu26 : Value}
    (gc26 : PySem.W.nsIn K mainGlobals "MOST_STATES" = some (some gu26))
    (gr26 : RelV (.int 6) gu26)
    {gu27 : Value}
    (gc27 : PySem.W.nsIn K mainGlobals "MOST_SYMBOLS" = some (some gu27))
    (gr27 : RelV (.int 24) gu27)
    {gu28 : Value}
    (gc28 : PySem.W.nsIn K mainGlobals "MOST_TAKEN" = some (some gu28))
    (gr28 : RelV (.int 3) gu28)
    {gu29 : Value}
    (gc29 : PySem.W.nsIn K mainGlobals "MOST_TEXT" = some (some gu29))
    (gr29 : RelV (.int 100000) gu29)
    {gu30 : Value}
    (gc30 : PySem.W.nsIn K mainGlobals "MOST_THINGS" = some (some gu30))
    (gr30 : RelV (.int 8) gu30)
    {gu31 : Value}
    (gc31 : PySem.W.nsIn K mainGlobals "MOST_TUPLES" = some (some gu31))
    (gr31 : RelV (.int 2000) gu31)
    {gu32 : Value}
    (gc32 : PySem.W.nsIn K mainGlobals "MOST_WAYS" = some (some gu32))
    (gr32 : RelV (.int 6000) gu32)
    {gu33 : Value}
    (gc33 : PySem.W.nsIn K mainGlobals "MOST_WEIGHT" = some (some gu33))
    (gr33 : RelV (.int 9) gu33)
    {gu34 : Value}
    (gc34 : PySem.W.nsIn K mainGlobals "MOST_WORDS" = some (some gu34))
    (gr34 : RelV (.int 6) gu34)
    {gu35 : Value}
    (gc35 : PySem.W.nsIn K mainGlobals "RESERVED" = some (some gu35))
    (gr35 : strsAt K gu35 = some (["kind", "column", "op", "want", "example", "sentence", "refuse", "point", "delay", "fold", "machine", "call", "out", "x1", "x2", "x3"] : List Str))
    {gu36 : Value}
    (gc36 : PySem.W.nsIn K mainGlobals "SMALL" = some (some gu36))
    (gr36 : RelV (.str "abcdefghijklmnopqrstuvwxyz") gu36)
    (a0 : PySem.W.nsIn K mainGlobals "is_spelled" = some (some (.ref f0)))
    (l0 : K.lookup f0 = some ⟨oc0, od0, .func (PySem.W.fnOf "is_spelled" "is_spelled" (defArgs s_is_spelled) (defBody s_is_spelled) (defScope s_is_spelled) .none kV0 dc0 pm0 an0 cd0 ct0), sl0⟩)
    (c0 : PySem.W.codeIn K cd0 "is_spelled" = true)
    (k0 : PySem.W.keepIn K (.ref f0) = true)
    (a1 : PySem.W.nsIn K mainGlobals "is_name" = some (some (.ref f1)))
    (l1 : K.lookup f1 = some ⟨oc1, od1, .func (PySem.W.fnOf "is_name" "is_name" (defArgs s_is_name) (defBody s_is_name) (defScope s_is_name) .none kV1 dc1 pm1 an1 cd1 ct1), sl1⟩)
    (c1 : PySem.W.codeIn K cd1 "is_name" = true)
    (k1 : PySem.W.keepIn K (.ref f1) = true)
    (a2 : PySem.W.nsIn K mainGlobals "_law_mixed" = some (some (.ref f2)))
    (l2 : K.lookup f2 = some ⟨oc2, od2, .func (PySem.W.fnOf "_law_mixed" "_law_mixed" (defArgs s_law_mixed) (defBody s_law_mixed) (defScope s_law_mixed) .none kV2 dc2 pm2 an2 cd2 ct2), sl2⟩)
    (c2 : PySem.W.codeIn K cd2 "_law_mixed" = true)
    (k2 : PySem.W.keepIn K (.ref f2) = true)
    (a3 : PySem.W.nsIn K mainGlobals "_law_purse" = some (some (.ref f3)))
    (l3 : K.lookup f3 = some ⟨oc3, od3, .func (PySem.W.fnOf "_law_purse" "_law_purse" (defArgs s_law_purse) (defBody s_law_purse) (defScope s_law_purse) .none kV3 dc3 pm3 an3 cd3 ct3), sl3⟩)
    (c3 : PySem.W.codeIn K cd3 "_law_purse" = true)
    (k3 : PySem.W.keepIn K (.ref f3) = true)
    (a4 : PySem.W.nsIn K mainGlobals "_law_take" = some (some (.ref f4)))
    (l4 : K.lookup f4 = some ⟨oc4, od4, .func (PySem.W.fnOf "_law_take" "_law_take" (defArgs s_law_take) (defBody s_law_take) (defScope s_law_take) .none kV4 dc4 pm4 an4 cd4 ct4), sl4⟩)
    (c4 : PySem.W.codeIn K cd4 "_law_take" = true)
    (k4 : PySem.W.keepIn K (.ref f4) = true)
    (a5 : PySem.W.nsIn K mainGlobals "_law_name" = some (some (.ref f5)))
    (l5 : K.lookup f5 = some ⟨oc5, od5, .func (PySem.W.fnOf "_law_name" "_law_name" (defArgs s_law_name) (defBody s_law_name) (defScope s_law_name) .none kV5 dc5 pm5 an5 cd5 ct5), sl5⟩)
    (c5 : PySem.W.codeIn K cd5 "_law_name" = true)
    (k5 : PySem.W.keepIn K (.ref f5) = true)
    (a6 : PySem.W.nsIn K mainGlobals "_law_reserved" = some (some (.ref f6)))
    (l6 : K.lookup f6 = some ⟨oc6, od6, .func (PySem.W.fnOf "_law_reserved" "_law_reserved" (defArgs s_law_reserved) (defBody s_law_reserved) (defScope s_law_reserved) .none kV6 dc6 pm6 an6 cd6 ct6), sl6⟩)
    (c6 : PySem.W.codeIn K cd6 "_law_reserved" = true)
    (k6 : PySem.W.keepIn K (.ref f6) = true)
    (a7 : PySem.W.nsIn K mainGlobals "_law_named" = some (some (.ref f7)))
    (l7 : K.lookup f7 = some ⟨oc7, od7, .func (PySem.W.fnOf "_law_named" "_law_named" (defArgs s_law_named) (defBody s_law_named) (defScope s_law_named) .none kV7 dc7 pm7 an7 cd7 ct7), sl7⟩)
    (c7 : PySem.W.codeIn K cd7 "_law_named" = true)
    (k7 : PySem.W.keepIn K (.ref f7) = true)
    (a8 : PySem.W.nsIn K mainGlobals "_law_text" = some (some (.ref f8)))
    (l8 : K.lookup f8 = some ⟨oc8, od8, .func (PySem.W.fnOf "_law_text" "_law_text" (defArgs s_law_text) (defBody s_law_text) (defScope s_law_text) .none kV8 dc8 pm8 an8 cd8 ct8), sl8⟩)
    (c8 : PySem.W.codeIn K cd8 "_law_text" = true)
    (k8 : PySem.W.keepIn K (.ref f8) = true)
    (a9 : PySem.W.nsIn K mainGlobals "_law_known" = some (some (.ref f9)))
    (l9 : K.lookup f9 = some ⟨oc9, od9, .func (PySem.W.fnOf "_law_known" "_law_known" (defArgs s_law_known) (defBody s_law_known) (defScope s_law_known) .none kV9 dc9 pm9 an9 cd9 ct9), sl9⟩)
    (c9 : PySem.W.codeIn K cd9 "_law_known" = true)
    (k9 : PySem.W.keepIn K (.ref f9) = true)
    (a10 : PySem.W.nsIn K mainGlobals "_law_kin" = some (some (.ref f10)))
    (l10 : K.lookup f10 = some ⟨oc10, od10, .func (PySem.W.fnOf "_law_kin" "_law_kin" (defArgs s_law_kin) (defBody s_law_kin) (defScope s_law_kin) .none kV10 dc10 pm10 an10 cd10 ct10), sl10⟩)
    (c10 : PySem.W.codeIn K cd10 "_law_kin" = true)
    (k10 : PySem.W.keepIn K (.ref f10) = true)
    (a11 : PySem.W.nsIn K mainGlobals "_law_raised" = some (some (.ref f11)))
    (l11 : K.lookup f11 = some ⟨oc11, od11, .func (PySem.W.fnOf "_law_raised" "_law_raised" (defArgs s_law_raised) (defBody s_law_raised) (defScope s_law_raised) .none kV11 dc11 pm11 an11 cd11 ct11), sl11⟩)
    (c11 : PySem.W.codeIn K cd11 "_law_raised" = true)
    (k11 : PySem.W.keepIn K (.ref f11) = true)
    (a12 : PySem.W.nsIn K mainGlobals "_law_kept" = some (some (.ref f12)))
    (l12 : K.lookup f12 = some ⟨oc12, od12, .func (PySem.W.fnOf "_law_kept" "_law_kept" (defArgs s_law_kept) (defBody s_law_kept) (defScope s_law_kept) .none kV12 dc12 pm12 an12 cd12 ct12), sl12⟩)
    (c12 : PySem.W.codeIn K cd12 "_law_kept" = true)
    (k12 : PySem.W.keepIn K (.ref f12) = true)
    (a13 : PySem.W.nsIn K mainGlobals "_law_caught" = some (some (.ref f13)))
    (l13 : K.lookup f13 = some ⟨oc13, od13, .func (PySem.W.fnOf "_law_caught" "_law_caught" (defArgs s_law_caught) (defBody s_law_caught) (defScope s_law_caught) .none kV13 dc13 pm13 an13 cd13 ct13), sl13⟩)
    (c13 : PySem.W.codeIn K cd13 "_law_caught" = true)
    (k13 : PySem.W.keepIn K (.ref f13) = true)
    (a14 : PySem.W.nsIn K mainGlobals "_law_bounds" = some (some (.ref f14)))
    (l14 : K.lookup f14 = some ⟨oc14, od14, .func (PySem.W.fnOf "_law_bounds" "_law_bounds" (defArgs s_law_bounds) (defBody s_law_bounds) (defScope s_law_bounds) .none kV14 dc14 pm14 an14 cd14 ct14), sl14⟩)
    (c14 : PySem.W.codeIn K cd14 "_law_bounds" = true)
    (k14 : PySem.W.keepIn K (.ref f14) = true)
    (a15 : PySem.W.nsIn K mainGlobals "law" = some (some (.ref f15)))
    (l15 : K.lookup f15 = some ⟨oc15, od15, .func (PySem.W.fnOf "law" "law" (defArgs s_law) (defBody s_law) (defScope s_law) .none kV15 dc15 pm15 an15 cd15 ct15), sl15⟩)
    (c15 : PySem.W.codeIn K cd15 "law" = true)
    (k15 : PySem.W.keepIn K (.ref f15) = true)
    (z0 : PySem.W.nsIn K mainGlobals "ValueError" = some none)
    (z1 : PySem.W.nsIn K mainGlobals "all" = some none)
    (z2 : PySem.W.nsIn K mainGlobals "bool" = some none)
    (z3 : PySem.W.nsIn K mainGlobals "int" = some none)
    (z4 : PySem.W.nsIn K mainGlobals "isinstance" = some none)
    (z5 : PySem.W.nsIn K mainGlobals "len" = some none)
    (z6 : PySem.W.nsIn K mainGlobals "range" = some none)
    (z7 : PySem.W.nsIn K mainGlobals "str" = some none)
    : ∃ fd : FuncData, (∀ (s : Shared) (v : Value), BindsTo s fd ⟨[v], []⟩ [("script", v)]) ∧ ∀ base : Heap, K.In base → base.Ns mainGlobals mg → FnOk l.prog w K mg base (L2N.CX l.prog w) 5 fa fd ["script"] (spQ K 1 fs_law) := by
  have e := hfa.symm.trans (PySem.W.mg_of X G a15)
  cases e
  have B : Bt mg := ⟨PySem.W.mg_none_of X G z0, PySem.W.mg_none_of X G z1, PySem.W.mg_none_of X G z2, PySem.W.mg_none_of X G z3, PySem.W.mg_none_of X G z4, PySem.W.mg_none_of X G z5, PySem.W.mg_none_of X G z6, PySem.W.mg_none_of X G z7⟩
  have M : Mg K mg := ⟨⟨_, PySem.W.mg_of X G gc0, gr0⟩, ⟨_, PySem.W.mg_of X G gc1, gr1⟩, ⟨_, PySem.W.mg_of X G gc2, gr2⟩, ⟨_, PySem.W.mg_of X G gc3, gr3⟩, ⟨_, PySem.W.mg_of X G gc4, gr4⟩, ⟨_, PySem.W.mg_of X G gc5, gr5⟩, ⟨_, PySem.W.mg_of X G gc6, gr6⟩, ⟨_, PySem.W.mg_of X G gc7, gr7⟩, ⟨_, PySem.W.mg_of X G gc8, gr8⟩, ⟨_, PySem.W.mg_of X G gc9, gr9⟩, ⟨_, PySem.W.mg_of X G gc10, gr10⟩, ⟨_, PySem.W.mg_of X G gc11, gr11⟩, ⟨_, PySem.W.mg_of X G gc12, gr12⟩, ⟨_, PySem.W.mg_of X G gc13, gr13⟩, ⟨_, PySem.W.mg_of X G gc14, gr14⟩, ⟨_, PySem.W.mg_of X G gc15, gr15⟩, ⟨_, PySem.W.mg_of X G gc16, gr16⟩, ⟨_, PySem.W.mg_of X G gc17, gr17⟩, ⟨_, PySem.W.mg_of X G gc18, gr18⟩, ⟨_, PySem.W.mg_of X G gc19, gr19⟩, ⟨_, PySem.W.mg_of X G gc20, gr20⟩, ⟨_, PySem.W.mg_of X G gc21, gr21⟩, ⟨_, PySem.W.mg_of X G gc22, gr22⟩, ⟨_, PySem.W.mg_of X G gc23, gr23⟩, ⟨_, PySem.W.mg_of X G gc24, gr24⟩, ⟨_, PySem.W.mg_of X G gc25, gr25⟩, ⟨_, PySem.W.mg_of X G gc26, gr26⟩, ⟨_, PySem.W.mg_of X G gc27, gr27⟩, ⟨_, PySem.W.mg_of X G gc28, gr28⟩, ⟨_, PySem.W.mg_of X G gc29, gr29⟩, ⟨_, PySem.W.mg_of X G gc30, gr30⟩, ⟨_, PySem.W.mg_of X G gc31, gr31⟩, ⟨_, PySem.W.mg_of X G gc32, gr32⟩, ⟨_, PySem.W.mg_of X G gc33, gr33⟩, ⟨_, PySem.W.mg_of X G gc34, gr34⟩, ⟨_, PySem.W.mg_of X G gc35, strsAt_ok gr35 (by decide)⟩, ⟨_, PySem.W.mg_of X G gc36, gr36⟩⟩
  have eC0 := clsA_of aC0
  have eC1 := clsA_of aC1
  have eC2 := clsA_of aC2
  have eC3 := clsA_of aC3
  have eC4 := clsA_of aC4
  have eC5 := clsA_of aC5
  have eC6 := clsA_of aC6
  have eC7 := clsA_of aC7
  have eC8 := clsA_of aC8
  have T0 := clsB_ok bC0
  have S0 : SupI l.prog K mg C0 m_BadBook "BadBook.__init__" fI0 (PySem.W.ksFn "__init__" "BadBook.__init__" (defArgs m_BadBook) (defBody m_BadBook) (defScope m_BadBook) .none xkV0 xdc0 xpm0 xan0 (.ref cda0) xct0 cc0) :=
    ⟨⟨_, _, _, _, _, _, _, _, _, _, _, _, _, _, _, _, _, _, _, rfl, lI0, cI0, dI0, vI0, eI0, kI0⟩, hI, T0.oex, sI0, bI0, oI, PySem.W.mg_none_of X G zI⟩
  obtain ⟨_, _, _, _, _, _, _, _, g0⟩ := g_BadBook
  have x0 : ∀ base, MkQ l.prog w K mg base 1 "BadBook" ["reason", "name"] := fun base => ⟨fI0, _, ["self", "reason", "name"], by rw [eC0]; exact T0.oex, by rw [eC0]; exact iC0, tI0, by rw [eC0]; exact init2 S0 g0 n0_reason n0_name (by decide) (by decide) (by decide) (by decide), .all (fun us hl => match us, hl with | [_, _, _], _ => rfl), by rw [eC0]; exact PySem.W.mg_of X G aC0⟩
  have T1 := clsB_ok bC1
  have S1 : SupI l.prog K mg C1 m_BadProgram "BadProgram.__init__" fI1 (PySem.W.ksFn "__init__" "BadProgram.__init__" (defArgs m_BadProgram) (defBody m_BadProgram) (defScope m_BadProgram) .none xkV1 xdc1 xpm1 xan1 (.ref cda1) xct1 cc1) :=
    ⟨⟨_, _, _, _, _, _, _, _, _, _, _, _, _, _, _, _, _, _, _, rfl, lI1, cI1, dI1, vI1, eI1, kI1⟩, hI, T1.oex, sI1, bI1, oI, PySem.W.mg_none_of X G zI⟩
  obtain ⟨_, _, _, _, _, _, _, _, g1⟩ := g_BadProgram
  have x1 : ∀ base, MkQ l.prog w K mg base 1 "BadProgram" ["reason", "at"] := fun base => ⟨fI1, _, ["self", "reason", "at"], by rw [eC1]; exact T1.oex, by rw [eC1]; exact iC1, tI1, by rw [eC1]; exact init2 S1 g1 n1_reason n1_at (by decide) (by decide) (by decide) (by decide), .all (fun us hl => match us, hl with | [_, _, _], _ => rfl), by rw [eC1]; exact PySem.W.mg_of X G aC1⟩
  have T2 := clsB_ok bC2
  have S2 : SupI l.prog K mg C2 m_BadTask "BadTask.__init__" fI2 (PySem.W.ksFn "__init__" "BadTask.__init__" (defArgs m_BadTask) (defBody m_BadTask) (defScope m_BadTask) .none xkV2 xdc2 xpm2 xan2 (.ref cda2) xct2 cc2) :=
    ⟨⟨_, _, _, _, _, _, _, _, _, _, _, _, _, _, _, _, _, _, _, rfl, lI2, cI2, dI2, vI2, eI2, kI2⟩, hI, T2.oex, sI2, bI2, oI, PySem.W.mg_none_of X G zI⟩
  obtain ⟨_, _, _, _, _, _, _, _, g2⟩ := g_BadTask
  have x2 : ∀ base, MkQ l.prog w K mg base 1 "BadTask" ["reason", "number"] := fun base => ⟨fI2, _, ["self", "reason", "number"], by rw [eC2]; exact T2.oex, by rw [eC2]; exact iC2, tI2, by rw [eC2]; exact init2 S2 g2 n2_reason n2_number (by decide) (by decide) (by decide) (by decide), .all (fun us hl => match us, hl with | [_, _, _], _ => rfl), by rw [eC2]; exact PySem.W.mg_of X G aC2⟩
  have T3 := clsB_ok bC3
  have S3 : SupI l.prog K mg C3 m_BadText "BadText.__init__" fI3 (PySem.W.ksFn "__init__" "BadText.__init__" (defArgs m_BadText) (defBody m_BadText) (defScope m_BadText) .none xkV3 xdc3 xpm3 xan3 (.ref cda3) xct3 cc3) :=
    ⟨⟨_, _, _, _, _, _, _, _, _, _, _, _, _, _, _, _, _, _, _, rfl, lI3, cI3, dI3, vI3, eI3, kI3⟩, hI, T3.oex, sI3, bI3, oI, PySem.W.mg_none_of X G zI⟩
  obtain ⟨_, _, _, _, g3⟩ := g_BadText
  have x3 : ∀ base, MkQ l.prog w K mg base 1 "BadText" ["at"] := fun base => ⟨fI3, _, ["self", "at"], by rw [eC3]; exact T3.oex, by rw [eC3]; exact iC3, tI3, by rw [eC3]; exact init1 S3 g3 n3_at (by decide) (by decide), .all (fun us hl => match us, hl with | [_, _], _ => rfl), by rw [eC3]; exact PySem.W.mg_of X G aC3⟩
  have T5 := clsB_ok bC5
  have S5 : SupI l.prog K mg C5 m_NotThere "NotThere.__init__" fI5 (PySem.W.ksFn "__init__" "NotThere.__init__" (defArgs m_NotThere) (defBody m_NotThere) (defScope m_NotThere) .none xkV5 xdc5 xpm5 xan5 (.ref cda5) xct5 cc5) :=
    ⟨⟨_, _, _, _, _, _, _, _, _, _, _, _, _, _, _, _, _, _, _, rfl, lI5, cI5, dI5, vI5, eI5, kI5⟩, hI, T5.oex, sI5, bI5, oI, PySem.W.mg_none_of X G zI⟩
  obtain ⟨_, _, _, _, g5⟩ := g_NotThere
  have x5 : ∀ base, MkQ l.prog w K mg base 1 "NotThere" ["number"] := fun base => ⟨fI5, _, ["self", "number"], by rw [eC5]; exact T5.oex, by rw [eC5]; exact iC5, tI5, by rw [eC5]; exact init1 S5 g5 n5_number (by decide) (by decide), .all (fun us hl => match us, hl with | [_, _], _ => rfl), by rw [eC5]; exact PySem.W.mg_of X G aC5⟩
  have T6 := clsB_ok bC6
  have S6 : SupI l.prog K mg C6 m_NothingLeft "NothingLeft.__init__" fI6 (PySem.W.ksFn "__init__" "NothingLeft.__init__" (defArgs m_NothingLeft) (defBody m_NothingLeft) (defScope m_NothingLeft) .none xkV6 xdc6 xpm6 xan6 (.ref cda6) xct6 cc6) :=
    ⟨⟨_, _, _, _, _, _, _, _, _, _, _, _, _, _, _, _, _, _, _, rfl, lI6, cI6, dI6, vI6, eI6, kI6⟩, hI, T6.oex, sI6, bI6, oI, PySem.W.mg_none_of X G zI⟩
  obtain ⟨_, _, _, _, g6⟩ := g_NothingLeft
  have x6 : ∀ base, MkQ l.prog w K mg base 1 "NothingLeft" ["word"] := fun base => ⟨fI6, _, ["self", "word"], by rw [eC6]; exact T6.oex, by rw [eC6]; exact iC6, tI6, by rw [eC6]; exact init1 S6 g6 n6_word (by decide) (by decide), .all (fun us hl => match us, hl with | [_, _], _ => rfl), by rw [eC6]; exact PySem.W.mg_of X G aC6⟩
  have T7 := clsB_ok bC7
  have S7 : SupI l.prog K mg C7 m_TooMany "TooMany.__init__" fI7 (PySem.W.ksFn "__init__" "TooMany.__init__" (defArgs m_TooMany) (defBody m_TooMany) (defScope m_TooMany) .none xkV7 xdc7 xpm7 xan7 (.ref cda7) xct7 cc7) :=
    ⟨⟨_, _, _, _, _, _, _, _, _, _, _, _, _, _, _, _, _, _, _, rfl, lI7, cI7, dI7, vI7, eI7, kI7⟩, hI, T7.oex, sI7, bI7, oI, PySem.W.mg_none_of X G zI⟩
  obtain ⟨_, _, _, _, g7⟩ := g_TooMany
  have x7 : ∀ base, MkQ l.prog w K mg base 1 "TooMany" ["limit"] := fun base => ⟨fI7, _, ["self", "limit"], by rw [eC7]; exact T7.oex, by rw [eC7]; exact iC7, tI7, by rw [eC7]; exact init1 S7 g7 n7_limit (by decide) (by decide), .all (fun us hl => match us, hl with | [_, _], _ => rfl), by rw [eC7]; exact PySem.W.mg_of X G aC7⟩
  have T8 := clsB_ok bC8
  have S8 : SupI l.prog K mg C8 m_UnknownWord "UnknownWord.__init__" fI8 (PySem.W.ksFn "__init__" "UnknownWord.__init__" (defArgs m_UnknownWord) (defBody m_UnknownWord) (defScope m_UnknownWord) .none xkV8 xdc8 xpm8 xan8 (.ref cda8) xct8 cc8) :=
    ⟨⟨_, _, _, _, _, _, _, _, _, _, _, _, _, _, _, _, _, _, _, rfl, lI8, cI8, dI8, vI8, eI8, kI8⟩, hI, T8.oex, sI8, bI8, oI, PySem.W.mg_none_of X G zI⟩
  obtain ⟨_, _, _, _, g8⟩ := g_UnknownWord
  have x8 : ∀ base, MkQ l.prog w K mg base 1 "UnknownWord" ["at"] := fun base => ⟨fI8, _, ["self", "at"], by rw [eC8]; exact T8.oex, by rw [eC8]; exact iC8, tI8, by rw [eC8]; exact init1 S8 g8 n8_at (by decide) (by decide), .all (fun us hl => match us, hl with | [_, _], _ => rfl), by rw [eC8]; exact PySem.W.mg_of X G aC8⟩
  have Y : Ys K mg := by
   refine ⟨?y0, ?y1, ?y2, ?y3, ?y4, ?y5, ?y6, ?y7, ?y8, ?y9, ?y10, ?y11, ?y12, ?y13, ?y14, ?y15, ?y16, ?y17, ?y18, ?y19, ?y20, ?y21, ?y22, ?y23, ?y24⟩
   case y0 => rw [eC0]; exact PySem.W.mg_of X G aC0
   case y1 => rw [eC1]; exact PySem.W.mg_of X G aC1
   case y2 => rw [eC2]; exact PySem.W.mg_of X G aC2
   case y3 => rw [eC3]; exact PySem.W.mg_of X G aC3
   case y4 => rw [eC4]; exact PySem.W.mg_of X G aC4
   case y5 => rw [eC5]; exact PySem.W.mg_of X G aC5
   case y6 => rw [eC6]; exact PySem.W.mg_of X G aC6
   case y7 => rw [eC7]; exact PySem.W.mg_of X G aC7
   case y8 => rw [eC8]; exact PySem.W.mg_of X G aC8
   case y9 => exact tabAll (by
    intro p hp
    simp only [List.mem_cons, List.not_mem_nil, or_false] at hp
    rcases hp with rfl | rfl | rfl | rfl | rfl | rfl | rfl | rfl
    · show PySem.W.exmOne K (.ref (clsA K "BadBook")) (.ref (clsA K "ColumnError")) = some true
      rw [eC0, eC4]
      exact x0_4
    · show PySem.W.exmOne K (.ref (clsA K "BadProgram")) (.ref (clsA K "ColumnError")) = some true
      rw [eC1, eC4]
      exact x1_4
    · show PySem.W.exmOne K (.ref (clsA K "BadTask")) (.ref (clsA K "ColumnError")) = some true
      rw [eC2, eC4]
      exact x2_4
    · show PySem.W.exmOne K (.ref (clsA K "BadText")) (.ref (clsA K "ColumnError")) = some true
      rw [eC3, eC4]
      exact x3_4
    · show PySem.W.exmOne K (.ref (clsA K "NotThere")) (.ref (clsA K "ColumnError")) = some true
      rw [eC5, eC4]
      exact x5_4
    · show PySem.W.exmOne K (.ref (clsA K "NothingLeft")) (.ref (clsA K "ColumnError")) = some true
      rw [eC6, eC4]
      exact x6_4
    · show PySem.W.exmOne K (.ref (clsA K "TooMany")) (.ref (clsA K "ColumnError")) = some true
      rw [eC7, eC4]
      exact x7_4
    · show PySem.W.exmOne K (.ref (clsA K "UnknownWord")) (.ref (clsA K "ColumnError")) = some true
      rw [eC8, eC4]
      exact x8_4)
   case y10 => 
      intro y hy
      simp only [List.mem_cons, List.not_mem_nil, or_false] at hy
      rcases hy with rfl | rfl | rfl
      · rw [eC1]
        exact ⟨T1.xf, n1_at⟩
      · rw [eC3]
        exact ⟨T3.xf, n3_at⟩
      · rw [eC8]
        exact ⟨T8.xf, n8_at⟩
   case y11 => 
      intro y hy
      simp only [List.mem_cons, List.not_mem_nil, or_false] at hy
      subst hy
      rw [eC7]
      exact ⟨T7.xf, n7_limit⟩
   case y12 => 
      intro y hy
      simp only [List.mem_cons, List.not_mem_nil, or_false] at hy
      subst hy
      rw [eC0]
      exact ⟨T0.xf, n0_name⟩
   case y13 => 
      intro y hy
      simp only [List.mem_cons, List.not_mem_nil, or_false] at hy
      rcases hy with rfl | rfl
      · rw [eC2]
        exact ⟨T2.xf, n2_number⟩
      · rw [eC5]
        exact ⟨T5.xf, n5_number⟩
   case y14 => 
      intro y hy
      simp only [List.mem_cons, List.not_mem_nil, or_false] at hy
      rcases hy with rfl | rfl | rfl
      · rw [eC0]
        exact ⟨T0.xf, n0_reason⟩
      · rw [eC1]
        exact ⟨T1.xf, n1_reason⟩
      · rw [eC2]
        exact ⟨T2.xf, n2_reason⟩
   case y15 => 
      intro y hy
      simp only [List.mem_cons, List.not_mem_nil, or_false] at hy
      subst hy
      rw [eC6]
      exact ⟨T6.xf, n6_word⟩
   case y16 => 
      intro y hy
      simp only [List.mem_cons, List.not_mem_nil, or_false] at hy
      rcases hy with rfl | rfl | rfl | rfl | rfl | rfl | rfl | rfl
      · rw [eC0]
        exact ⟨T0.exc, t0_BadBook⟩
      · rw [eC1, eC0]
        exact ⟨T1.exc, t1_BadBook⟩
      · rw [eC2, eC0]
        exact ⟨T2.exc, t2_BadBook⟩
      · rw [eC3, eC0]
        exact ⟨T3.exc, t3_BadBook⟩
      · rw [eC5, eC0]
        exact ⟨T5.exc, t5_BadBook⟩
      · rw [eC6, eC0]
        exact ⟨T6.exc, t6_BadBook⟩
      · rw [eC7, eC0]
        exact ⟨T7.exc, t7_BadBook⟩
      · rw [eC8, eC0]
        exact ⟨T8.exc, t8_BadBook⟩
   case y17 => 
      intro y hy
      simp only [List.mem_cons, List.not_mem_nil, or_false] at hy
      rcases hy with rfl | rfl | rfl | rfl | rfl | rfl | rfl | rfl
      · rw [eC0, eC1]
        exact ⟨T0.exc, t0_BadProgram⟩
      · rw [eC1]
        exact ⟨T1.exc, t1_BadProgram⟩
      · rw [eC2, eC1]
        exact ⟨T2.exc, t2_BadProgram⟩
      · rw [eC3, eC1]
        exact ⟨T3.exc, t3_BadProgram⟩
      · rw [eC5, eC1]
        exact ⟨T5.exc, t5_BadProgram⟩
      · rw [eC6, eC1]
        exact ⟨T6.exc, t6_BadProgram⟩
      · rw [eC7, eC1]
        exact ⟨T7.exc, t7_BadProgram⟩
      · rw [eC8, eC1]
        exact ⟨T8.exc, t8_BadProgram⟩
   case y18 => 
      intro y hy
      simp only [List.mem_cons, List.not_mem_nil, or_false] at hy
      rcases hy with rfl | rfl | rfl | rfl | rfl | rfl | rfl | rfl
      · rw [eC0, eC2]
        exact ⟨T0.exc, t0_BadTask⟩
      · rw [eC1, eC2]
        exact ⟨T1.exc, t1_BadTask⟩
      · rw [eC2]
        exact ⟨T2.exc, t2_BadTask⟩
      · rw [eC3, eC2]
        exact ⟨T3.exc, t3_BadTask⟩
      · rw [eC5, eC2]
        exact ⟨T5.exc, t5_BadTask⟩
      · rw [eC6, eC2]
        exact ⟨T6.exc, t6_BadTask⟩
      · rw [eC7, eC2]
        exact ⟨T7.exc, t7_BadTask⟩
      · rw [eC8, eC2]
        exact ⟨T8.exc, t8_BadTask⟩
   case y19 => 
      intro y hy
      simp only [List.mem_cons, List.not_mem_nil, or_false] at hy
      rcases hy with rfl | rfl | rfl | rfl | rfl | rfl | rfl | rfl
      · rw [eC0, eC3]
        exact ⟨T0.exc, t0_BadText⟩
      · rw [eC1, eC3]
        exact ⟨T1.exc, t1_BadText⟩
      · rw [eC2, eC3]
        exact ⟨T2.exc, t2_BadText⟩
      · rw [eC3]
        exact ⟨T3.exc, t3_BadText⟩
      · rw [eC5, eC3]
        exact ⟨T5.exc, t5_BadText⟩
      · rw [eC6, eC3]
        exact ⟨T6.exc, t6_BadText⟩
      · rw [eC7, eC3]
        exact ⟨T7.exc, t7_BadText⟩
      · rw [eC8, eC3]
        exact ⟨T8.exc, t8_BadText⟩
   case y20 => 
      intro y hy
      simp only [List.mem_cons, List.not_mem_nil, or_false] at hy
      rcases hy with rfl | rfl | rfl | rfl | rfl | rfl | rfl | rfl
      · rw [eC0, eC5]
        exact ⟨T0.exc, t0_NotThere⟩
      · rw [eC1, eC5]
        exact ⟨T1.exc, t1_NotThere⟩
      · rw [eC2, eC5]
        exact ⟨T2.exc, t2_NotThere⟩
      · rw [eC3, eC5]
        exact ⟨T3.exc, t3_NotThere⟩
      · rw [eC5]
        exact ⟨T5.exc, t5_NotThere⟩
      · rw [eC6, eC5]
        exact ⟨T6.exc, t6_NotThere⟩
      · rw [eC7, eC5]
        exact ⟨T7.exc, t7_NotThere⟩
      · rw [eC8, eC5]
        exact ⟨T8.exc, t8_NotThere⟩
   case y21 => 
      intro y hy
      simp only [List.mem_cons, List.not_mem_nil, or_false] at hy
      rcases hy with rfl | rfl | rfl | rfl | rfl | rfl | rfl | rfl
      · rw [eC0, eC6]
        exact ⟨T0.exc, t0_NothingLeft⟩
      · rw [eC1, eC6]
        exact ⟨T1.exc, t1_NothingLeft⟩
      · rw [eC2, eC6]
        exact ⟨T2.exc, t2_NothingLeft⟩
      · rw [eC3, eC6]
        exact ⟨T3.exc, t3_NothingLeft⟩
      · rw [eC5, eC6]
        exact ⟨T5.exc, t5_NothingLeft⟩
      · rw [eC6]
        exact ⟨T6.exc, t6_NothingLeft⟩
      · rw [eC7, eC6]
        exact ⟨T7.exc, t7_NothingLeft⟩
      · rw [eC8, eC6]
        exact ⟨T8.exc, t8_NothingLeft⟩
   case y22 => 
      intro y hy
      simp only [List.mem_cons, List.not_mem_nil, or_false] at hy
      rcases hy with rfl | rfl | rfl | rfl | rfl | rfl | rfl | rfl
      · rw [eC0, eC7]
        exact ⟨T0.exc, t0_TooMany⟩
      · rw [eC1, eC7]
        exact ⟨T1.exc, t1_TooMany⟩
      · rw [eC2, eC7]
        exact ⟨T2.exc, t2_TooMany⟩
      · rw [eC3, eC7]
        exact ⟨T3.exc, t3_TooMany⟩
      · rw [eC5, eC7]
        exact ⟨T5.exc, t5_TooMany⟩
      · rw [eC6, eC7]
        exact ⟨T6.exc, t6_TooMany⟩
      · rw [eC7]
        exact ⟨T7.exc, t7_TooMany⟩
      · rw [eC8, eC7]
        exact ⟨T8.exc, t8_TooMany⟩
   case y23 => 
      intro y hy
      simp only [List.mem_cons, List.not_mem_nil, or_false] at hy
      rcases hy with rfl | rfl | rfl | rfl | rfl | rfl | rfl | rfl
      · rw [eC0, eC8]
        exact ⟨T0.exc, t0_UnknownWord⟩
      · rw [eC1, eC8]
        exact ⟨T1.exc, t1_UnknownWord⟩
      · rw [eC2, eC8]
        exact ⟨T2.exc, t2_UnknownWord⟩
      · rw [eC3, eC8]
        exact ⟨T3.exc, t3_UnknownWord⟩
      · rw [eC5, eC8]
        exact ⟨T5.exc, t5_UnknownWord⟩
      · rw [eC6, eC8]
        exact ⟨T6.exc, t6_UnknownWord⟩
      · rw [eC7, eC8]
        exact ⟨T7.exc, t7_UnknownWord⟩
      · rw [eC8]
        exact ⟨T8.exc, t8_UnknownWord⟩
   case y24 => 
      intro y hy
      simp only [List.mem_cons, List.not_mem_nil, or_false] at hy
      rcases hy with rfl | rfl | rfl | rfl | rfl | rfl | rfl | rfl
      · rw [eC0]
        exact ⟨T0.exc, t0_ValueError⟩
      · rw [eC1]
        exact ⟨T1.exc, t1_ValueError⟩
      · rw [eC2]
        exact ⟨T2.exc, t2_ValueError⟩
      · rw [eC3]
        exact ⟨T3.exc, t3_ValueError⟩
      · rw [eC5]
        exact ⟨T5.exc, t5_ValueError⟩
      · rw [eC6]
        exact ⟨T6.exc, t6_ValueError⟩
      · rw [eC7]
        exact ⟨T7.exc, t7_ValueError⟩
      · rw [eC8]
        exact ⟨T8.exc, t8_ValueError⟩
  have F0 := fun_mk (st := s_is_spelled) l0 c0 k0
  have F1 := fun_mk (st := s_is_name) l1 c1 k1
  have F2 := fun_mk (st := s_law_mixed) l2 c2 k2
  have F3 := fun_mk (st := s_law_purse) l3 c3 k3
  have F4 := fun_mk (st := s_law_take) l4 c4 k4
  have F5 := fun_mk (st := s_law_name) l5 c5 k5
  have F6 := fun_mk (st := s_law_reserved) l6 c6 k6
  have F7 := fun_mk (st := s_law_named) l7 c7 k7
  have F8 := fun_mk (st := s_law_text) l8 c8 k8
  have F9 := fun_mk (st := s_law_known) l9 c9 k9
  have F10 := fun_mk (st := s_law_kin) l10 c10 k10
  have F11 := fun_mk (st := s_law_raised) l11 c11 k11
  have F12 := fun_mk (st := s_law_kept) l12 c12 k12
  have F13 := fun_mk (st := s_law_caught) l13 c13 k13
  have F14 := fun_mk (st := s_law_bounds) l14 c14 k14
  have F15 := fun_mk (st := s_law) l15 c15 k15
  refine ⟨PySem.W.fnOf "law" "law" (defArgs s_law) (defBody s_law) (defScope s_law) .none kV15 dc15 pm15 an15 cd15 ct15, fun s v => .of_eq rfl, fun base _ _ => ?_⟩
  have R : Rs l.prog w K mg base := ⟨x0 base, x1 base, x2 base, x3 base, x5 base, x6 base, x7 base, x8 base⟩
  have q0 := calq F0 (PySem.W.mg_of X G a0) (ok_is_spelled (P := l.prog) (w := w) (mg := mg) (base := base) F0 B M) (fun _ _ _ _ _ _ us hl => match us, hl with | [_], _ => rfl)
  have q1 := calq F1 (PySem.W.mg_of X G a1) (ok_is_name (P := l.prog) (w := w) (mg := mg) (base := base) F1 B ⟨q0⟩ M) (fun _ _ _ _ _ _ us hl => match us, hl with | [_], _ => rfl)
  have q2 := calq F2 (PySem.W.mg_of X G a2) (ok_law_mixed (P := l.prog) (w := w) (mg := mg) (base := base) F2 B) (fun _ _ _ _ _ _ us hl => match us, hl with | [_, _], _ => rfl)
  have q3 := calq F3 (PySem.W.mg_of X G a3) (ok_law_purse (P := l.prog) (w := w) (mg := mg) (base := base) F3 B ⟨q2⟩) (fun _ _ _ _ _ _ us hl => match us, hl with | [_], _ => rfl)
  have q4 := calq F4 (PySem.W.mg_of X G a4) (ok_law_take (P := l.prog) (w := w) (mg := mg) (base := base) F4 B) (fun _ _ _ _ _ _ us hl => match us, hl with | [_, _], _ => rfl)
  have q5 := calq F5 (PySem.W.mg_of X G a5) (ok_law_name (P := l.prog) (w := w) (mg := mg) (base := base) F5 B ⟨q4⟩) (fun _ _ _ _ _ _ us hl => match us, hl with | [_, _], _ => rfl)
  have q6 := calq F6 (PySem.W.mg_of X G a6) (ok_law_reserved (P := l.prog) (w := w) (mg := mg) (base := base) F6 B) (fun _ _ _ _ _ _ us hl => match us, hl with | [], _ => rfl)
  have q7 := calq F7 (PySem.W.mg_of X G a7) (ok_law_named (P := l.prog) (w := w) (mg := mg) (base := base) F7 B ⟨q6⟩) (fun _ _ _ _ _ _ us hl => match us, hl with | [_], _ => rfl)
  have q8 := calq F8 (PySem.W.mg_of X G a8) (ok_law_text (P := l.prog) (w := w) (mg := mg) (base := base) F8 B ⟨q4⟩) (fun _ _ _ _ _ _ us hl => match us, hl with | [_], _ => rfl)
  have q9 := calq F9 (PySem.W.mg_of X G a9) (ok_law_known (P := l.prog) (w := w) (mg := mg) (base := base) F9 B ⟨q4, q6⟩) (fun _ _ _ _ _ _ us hl => match us, hl with | [_], _ => rfl)
  have q10 := calx F10 (PySem.W.mg_of X G a10) (fun ea eo ec ed base hB hz hv => ok_law_kin (P := l.prog) (w := w) (mg := mg) (base := base) F10 B Y hB hz hv) (fun _ _ _ _ _ _ us hl => match us, hl with | [_], _ => rfl)
  have q11 := calq F11 (PySem.W.mg_of X G a11) (ok_law_raised (P := l.prog) (w := w) (mg := mg) (base := base) F11 B R) (fun _ _ _ _ _ _ us hl => match us, hl with | [_, _, _], _ => rfl)
  have q12 := calx F12 (PySem.W.mg_of X G a12) (fun ea eo ec ed base hB hz hv => ok_law_kept (P := l.prog) (w := w) (mg := mg) (base := base) F12 B Y hB hz hv) (fun _ _ _ _ _ _ us hl => match us, hl with | [_, _, _, _], _ => rfl)
  have q13 := calq F13 (PySem.W.mg_of X G a13) (ok_law_caught (P := l.prog) (w := w) (mg := mg) (base := base) F13 B ⟨q10, q11, q12⟩ Y) (fun _ _ _ _ _ _ us hl => match us, hl with | [_, _, _], _ => rfl)
  have q14 := calq F14 (PySem.W.mg_of X G a14) (ok_law_bounds (P := l.prog) (w := w) (mg := mg) (base := base) F14 B M) (fun _ _ _ _ _ _ us hl => match us, hl with | [], _ => rfl)
  exact ok_law F15 B ⟨q1, q3, q4, q5, q6, q7, q8, q9, q13, q14⟩ M
end W01
open PySem PySem.W PyProof.Rows
set_option maxHeartbeats 0 in
theorem PySem.Challenge.cw_columnwright_k01_names_errors_bounds_holds : PySem.Challenge.rw_columnwright_k01_names_errors_bounds.Holds := by
  w_on; o_law; k_head; (case hw => w_witness2)
  k_fill
  refine L2.walk_of (l := PySem.Challenge.rw_columnwright_k01_names_errors_bounds) (n := 63) (k := 5) (x := "script") (CX := fun w => L2N.CX PySem.Challenge.rw_columnwright_k01_names_errors_bounds.prog w) (sp := fun w => QL.spQ _ 1 W01.fs_law) rfl (by decide) rfl ⟨rfl, by decide, by decide⟩ (fun w h Y => PySem.W.kIn_of Y) ?F (fun _ _ a ns hl hO hS => QL.end_sp hO hS (W01.fs_end ns hl)) (fun _ _ _ _ _ h => QL.end_cx h)
  case F =>
    intro w mg fa h KX G hmg
    refine' W01.all_mk KX G hmg ?aC0 ?aC1 ?aC2 ?aC3 ?aC4 ?aC5 ?aC6 ?aC7 ?aC8 ?bC0 ?iC0 ?tI0 ?lI0 ?cI0 ?dI0 ?vI0 ?eI0 ?kI0 ?sI0 ?bI0 ?n0_name ?n0_reason ?bC1 ?iC1 ?tI1 ?lI1 ?cI1 ?dI1 ?vI1 ?eI1 ?kI1 ?sI1 ?bI1 ?n1_at ?n1_reason ?bC2 ?iC2 ?tI2 ?lI2 ?cI2 ?dI2 ?vI2 ?eI2 ?kI2 ?sI2 ?bI2 ?n2_number ?n2_reason ?bC3 ?iC3 ?tI3 ?lI3 ?cI3 ?dI3 ?vI3 ?eI3 ?kI3 ?sI3 ?bI3 ?n3_at ?bC5 ?iC5 ?tI5 ?lI5 ?cI5 ?dI5 ?vI5 ?eI5 ?kI5 ?sI5 ?bI5 ?n5_number ?bC6 ?iC6 ?tI6 ?lI6 ?cI6 ?dI6 ?vI6 ?eI6 ?kI6 ?sI6 ?bI6 ?n6_word ?bC7 ?iC7 ?tI7 ?lI7 ?cI7 ?dI7 ?vI7 ?eI7 ?kI7 ?sI7 ?bI7 ?n7_limit ?bC8 ?iC8 ?tI8 ?lI8 ?cI8 ?dI8 ?vI8 ?eI8 ?kI8 ?sI8 ?bI8 ?n8_at ?hI ?oI ?zI ?x0_4 ?x1_4 ?x2_4 ?x3_4 ?x5_4 ?x6_4 ?x7_4 ?x8_4 ?t0_BadBook ?t1_BadBook ?t2_BadBook ?t3_BadBook ?t5_BadBook ?t6_BadBook ?t7_BadBook ?t8_BadBook ?t0_BadProgram ?t1_BadProgram ?t2_BadProgram ?t3_BadProgram ?t5_BadProgram ?t6_BadProgram ?t7_BadProgram ?t8_BadProgram ?t0_BadTask ?t1_BadTask ?t2_BadTask ?t3_BadTask ?t5_BadTask ?t6_BadTask ?t7_BadTask ?t8_BadTask ?t0_BadText ?t1_BadText ?t2_BadText ?t3_BadText ?t5_BadText ?t6_BadText ?t7_BadText ?t8_BadText ?t0_NotThere ?t1_NotThere ?t2_NotThere ?t3_NotThere ?t5_NotThere ?t6_NotThere ?t7_NotThere ?t8_NotThere ?t0_NothingLeft ?t1_NothingLeft ?t2_NothingLeft ?t3_NothingLeft ?t5_NothingLeft ?t6_NothingLeft ?t7_NothingLeft ?t8_NothingLeft ?t0_TooMany ?t1_TooMany ?t2_TooMany ?t3_TooMany ?t5_TooMany ?t6_TooMany ?t7_TooMany ?t8_TooMany ?t0_UnknownWord ?t1_UnknownWord ?t2_UnknownWord ?t3_UnknownWord ?t5_UnknownWord ?t6_UnknownWord ?t7_UnknownWord ?t8_UnknownWord ?t0_ValueError ?t1_ValueError ?t2_ValueError ?t3_ValueError ?t5_ValueError ?t6_ValueError ?t7_ValueError ?t8_ValueError ?gc0 ?gr0 ?gc1 ?gr1 ?gc2 ?gr2 ?gc3 ?gr3 ?gc4 ?gr4 ?gc5 ?gr5 ?gc6 ?gr6 ?gc7 ?gr7 ?gc8 ?gr8 ?gc9 ?gr9 ?gc10 ?gr10 ?gc11 ?gr11 ?gc12 ?gr12 ?gc13 ?gr13 ?gc14 ?gr14 ?gc15 ?gr15 ?gc16 ?gr16 ?gc17 ?gr17 ?gc18 ?gr18 ?gc19 ?gr19 ?gc20 ?gr20 ?gc21 ?gr21 ?gc22 ?gr22 ?gc23 ?gr23 ?gc24 ?gr24 ?gc25 ?gr25 ?gc26 ?gr26 ?gc27 ?gr27 ?gc28 ?gr28 ?gc29 ?gr29 ?gc30 ?gr30 ?gc31 ?gr31 ?gc32 ?gr32 ?gc33 ?gr33 ?gc34 ?gr34 ?gc35 ?gr35 ?gc36 ?gr36 ?a0 ?l0 ?c0 ?k0 ?a1 ?l1 ?c1 ?k1 ?a2 ?l2 ?c2 ?k2 ?a3 ?l3 ?c3 ?k3 ?a4 ?l4 ?c4 ?k4 ?a5 ?l5 ?c5 ?k5 ?a6 ?l6 ?c6 ?k6 ?a7 ?l7 ?c7 ?k7 ?a8 ?l8 ?c8 ?k8 ?a9 ?l9 ?c9 ?k9 ?a10 ?l10 ?c10 ?k10 ?a11 ?l11 ?c11 ?k11 ?a12 ?l12 ?c12 ?k12 ?a13 ?l13 ?c13 ?k13 ?a14 ?l14 ?c14 ?k14 ?a15 ?l15 ?c15 ?k15 ?z0 ?z1 ?z2 ?z3 ?z4 ?z5 ?z6 ?z7
    (case aC0 => k_is)
    (case aC1 => k_is)
    (case aC2 => k_is)
    (case aC3 => k_is)
    (case aC4 => k_is)
    (case aC5 => k_is)
    (case aC6 => k_is)
    (case aC7 => k_is)
    (case aC8 => k_is)
    (case bC0 => kernel_rfl)
    (case iC0 => k_is)
    (case tI0 => k_is)
    (case lI0 => k_is)
    (case cI0 => k_is)
    (case dI0 => k_is)
    (case vI0 => rfl)
    (case eI0 => first | rfl | decide +kernel)
    (case kI0 => k_is)
    (case sI0 => ks_is)
    (case bI0 => k_is)
    (case n0_name => k_is)
    (case n0_reason => k_is)
    (case bC1 => kernel_rfl)
    (case iC1 => k_is)
    (case tI1 => k_is)
    (case lI1 => k_is)
    (case cI1 => k_is)
    (case dI1 => k_is)
    (case vI1 => rfl)
    (case eI1 => first | rfl | decide +kernel)
    (case kI1 => k_is)
    (case sI1 => ks_is)
    (case bI1 => k_is)
    (case n1_at => k_is)
    (case n1_reason => k_is)
    (case bC2 => kernel_rfl)
    (case iC2 => k_is)
    (case tI2 => k_is)
    (case lI2 => k_is)
    (case cI2 => k_is)
    (case dI2 => k_is)
    (case vI2 => rfl)
    (case eI2 => first | rfl | decide +kernel)
    (case kI2 => k_is)
    (case sI2 => ks_is)
    (case bI2 => k_is)
    (case n2_number => k_is)
    (case n2_reason => k_is)
    (case bC3 => kernel_rfl)
    (case iC3 => k_is)
    (case tI3 => k_is)
    (case lI3 => k_is)
    (case cI3 => k_is)
    (case dI3 => k_is)
    (case vI3 => rfl)
    (case eI3 => first | rfl | decide +kernel)
    (case kI3 => k_is)
    (case sI3 => ks_is)
    (case bI3 => k_is)
    (case n3_at => k_is)
    (case bC5 => kernel_rfl)
    (case iC5 => k_is)
    (case tI5 => k_is)
    (case lI5 => k_is)
    (case cI5 => k_is)
    (case dI5 => k_is)
    (case vI5 => rfl)
    (case eI5 => first | rfl | decide +kernel)
    (case kI5 => k_is)
    (case sI5 => ks_is)
    (case bI5 => k_is)
    (case n5_number => k_is)
    (case bC6 => kernel_rfl)
    (case iC6 => k_is)
    (case tI6 => k_is)
    (case lI6 => k_is)
    (case cI6 => k_is)
    (case dI6 => k_is)
    (case vI6 => rfl)
    (case eI6 => first | rfl | decide +kernel)
    (case kI6 => k_is)
    (case sI6 => ks_is)
    (case bI6 => k_is)
    (case n6_word => k_is)
    (case bC7 => kernel_rfl)
    (case iC7 => k_is)
    (case tI7 => k_is)
    (case lI7 => k_is)
    (case cI7 => k_is)
    (case dI7 => k_is)
    (case vI7 => rfl)
    (case eI7 => first | rfl | decide +kernel)
    (case kI7 => k_is)
    (case sI7 => ks_is)
    (case bI7 => k_is)
    (case n7_limit => k_is)
    (case bC8 => kernel_rfl)
    (case iC8 => k_is)
    (case tI8 => k_is)
    (case lI8 => k_is)
    (case cI8 => k_is)
    (case dI8 => k_is)
    (case vI8 => rfl)
    (case eI8 => first | rfl | decide +kernel)
    (case kI8 => k_is)
    (case sI8 => ks_is)
    (case bI8 => k_is)
    (case n8_at => k_is)
    (case hI => first | rfl | decide +kernel)
    (case oI => k_is)
    (case zI => k_is)
    (case x0_4 => kernel_rfl)
    (case x1_4 => kernel_rfl)
    (case x2_4 => kernel_rfl)
    (case x3_4 => kernel_rfl)
    (case x5_4 => kernel_rfl)
    (case x6_4 => kernel_rfl)
    (case x7_4 => kernel_rfl)
    (case x8_4 => kernel_rfl)
    (case t0_BadBook => first | kernel_rfl | decide +kernel)
    (case t1_BadBook => first | kernel_rfl | decide +kernel)
    (case t2_BadBook => first | kernel_rfl | decide +kernel)
    (case t3_BadBook => first | kernel_rfl | decide +kernel)
    (case t5_BadBook => first | kernel_rfl | decide +kernel)
    (case t6_BadBook => first | kernel_rfl | decide +kernel)
    (case t7_BadBook => first | kernel_rfl | decide +kernel)
    (case t8_BadBook => first | kernel_rfl | decide +kernel)
    (case t0_BadProgram => first | kernel_rfl | decide +kernel)
    (case t1_BadProgram => first | kernel_rfl | decide +kernel)
    (case t2_BadProgram => first | kernel_rfl | decide +kernel)
    (case t3_BadProgram => first | kernel_rfl | decide +kernel)
    (case t5_BadProgram => first | kernel_rfl | decide +kernel)
    (case t6_BadProgram => first | kernel_rfl | decide +kernel)
    (case t7_BadProgram => first | kernel_rfl | decide +kernel)
    (case t8_BadProgram => first | kernel_rfl | decide +kernel)
    (case t0_BadTask => first | kernel_rfl | decide +kernel)
    (case t1_BadTask => first | kernel_rfl | decide +kernel)
    (case t2_BadTask => first | kernel_rfl | decide +kernel)
    (case t3_BadTask => first | kernel_rfl | decide +kernel)
    (case t5_BadTask => first | kernel_rfl | decide +kernel)
    (case t6_BadTask => first | kernel_rfl | decide +kernel)
    (case t7_BadTask => first | kernel_rfl | decide +kernel)
    (case t8_BadTask => first | kernel_rfl | decide +kernel)
    (case t0_BadText => first | kernel_rfl | decide +kernel)
    (case t1_BadText => first | kernel_rfl | decide +kernel)
    (case t2_BadText => first | kernel_rfl | decide +kernel)
    (case t3_BadText => first | kernel_rfl | decide +kernel)
    (case t5_BadText => first | kernel_rfl | decide +kernel)
    (case t6_BadText => first | kernel_rfl | decide +kernel)
    (case t7_BadText => first | kernel_rfl | decide +kernel)
    (case t8_BadText => first | kernel_rfl | decide +kernel)
    (case t0_NotThere => first | kernel_rfl | decide +kernel)
    (case t1_NotThere => first | kernel_rfl | decide +kernel)
    (case t2_NotThere => first | kernel_rfl | decide +kernel)
    (case t3_NotThere => first | kernel_rfl | decide +kernel)
    (case t5_NotThere => first | kernel_rfl | decide +kernel)
    (case t6_NotThere => first | kernel_rfl | decide +kernel)
    (case t7_NotThere => first | kernel_rfl | decide +kernel)
    (case t8_NotThere => first | kernel_rfl | decide +kernel)
    (case t0_NothingLeft => first | kernel_rfl | decide +kernel)
    (case t1_NothingLeft => first | kernel_rfl | decide +kernel)
    (case t2_NothingLeft => first | kernel_rfl | decide +kernel)
    (case t3_NothingLeft => first | kernel_rfl | decide +kernel)
    (case t5_NothingLeft => first | kernel_rfl | decide +kernel)
    (case t6_NothingLeft => first | kernel_rfl | decide +kernel)
    (case t7_NothingLeft => first | kernel_rfl | decide +kernel)
    (case t8_NothingLeft => first | kernel_rfl | decide +kernel)
    (case t0_TooMany => first | kernel_rfl | decide +kernel)
    (case t1_TooMany => first | kernel_rfl | decide +kernel)
    (case t2_TooMany => first | kernel_rfl | decide +kernel)
    (case t3_TooMany => first | kernel_rfl | decide +kernel)
    (case t5_TooMany => first | kernel_rfl | decide +kernel)
    (case t6_TooMany => first | kernel_rfl | decide +kernel)
    (case t7_TooMany => first | kernel_rfl | decide +kernel)
    (case t8_TooMany => first | kernel_rfl | decide +kernel)
    (case t0_UnknownWord => first | kernel_rfl | decide +kernel)
    (case t1_UnknownWord => first | kernel_rfl | decide +kernel)
    (case t2_UnknownWord => first | kernel_rfl | decide +kernel)
    (case t3_UnknownWord => first | kernel_rfl | decide +kernel)
    (case t5_UnknownWord => first | kernel_rfl | decide +kernel)
    (case t6_UnknownWord => first | kernel_rfl | decide +kernel)
    (case t7_UnknownWord => first | kernel_rfl | decide +kernel)
    (case t8_UnknownWord => first | kernel_rfl | decide +kernel)
    (case t0_ValueError => first | kernel_rfl | decide +kernel)
    (case t1_ValueError => first | kernel_rfl | decide +kernel)
    (case t2_ValueError => first | kernel_rfl | decide +kernel)
    (case t3_ValueError => first | kernel_rfl | decide +kernel)
    (case t5_ValueError => first | kernel_rfl | decide +kernel)
    (case t6_ValueError => first | kernel_rfl | decide +kernel)
    (case t7_ValueError => first | kernel_rfl | decide +kernel)
    (case t8_ValueError => first | kernel_rfl | decide +kernel)
    (case gc0 => k_is)
    (case gr0 => exact ⟨_, by first | rfl | kernel_rfl⟩)
    (case gc1 => k_is)
    (case gr1 => exact ⟨_, by first | rfl | kernel_rfl⟩)
    (case gc2 => k_is)
    (case gr2 => exact ⟨_, by first | rfl | kernel_rfl⟩)
    (case gc3 => k_is)
    (case gr3 => exact ⟨_, by first | rfl | kernel_rfl⟩)
    (case gc4 => k_is)
    (case gr4 => exact ⟨_, by first | rfl | kernel_rfl⟩)
    (case gc5 => k_is)
    (case gr5 => exact ⟨_, by first | rfl | kernel_rfl⟩)
    (case gc6 => k_is)
    (case gr6 => exact ⟨_, by first | rfl | kernel_rfl⟩)
    (case gc7 => k_is)
    (case gr7 => exact ⟨_, by first | rfl | kernel_rfl⟩)
    (case gc8 => k_is)
    (case gr8 => exact ⟨_, by first | rfl | kernel_rfl⟩)
    (case gc9 => k_is)
    (case gr9 => exact ⟨_, by first | rfl | kernel_rfl⟩)
    (case gc10 => k_is)
    (case gr10 => exact ⟨_, by first | rfl | kernel_rfl⟩)
    (case gc11 => k_is)
    (case gr11 => exact ⟨_, by first | rfl | kernel_rfl⟩)
    (case gc12 => k_is)
    (case gr12 => exact ⟨_, by first | rfl | kernel_rfl⟩)
    (case gc13 => k_is)
    (case gr13 => exact ⟨_, by first | rfl | kernel_rfl⟩)
    (case gc14 => k_is)
    (case gr14 => exact ⟨_, by first | rfl | kernel_rfl⟩)
    (case gc15 => k_is)
    (case gr15 => exact ⟨_, by first | rfl | kernel_rfl⟩)
    (case gc16 => k_is)
    (case gr16 => exact ⟨_, by first | rfl | kernel_rfl⟩)
    (case gc17 => k_is)
    (case gr17 => exact ⟨_, by first | rfl | kernel_rfl⟩)
    (case gc18 => k_is)
    (case gr18 => exact ⟨_, by first | rfl | kernel_rfl⟩)
    (case gc19 => k_is)
    (case gr19 => exact ⟨_, by first | rfl | kernel_rfl⟩)
    (case gc20 => k_is)
    (case gr20 => exact ⟨_, by first | rfl | kernel_rfl⟩)
    (case gc21 => k_is)
    (case gr21 => exact ⟨_, by first | rfl | kernel_rfl⟩)
    (case gc22 => k_is)
    (case gr22 => exact ⟨_, by first | rfl | kernel_rfl⟩)
    (case gc23 => k_is)
    (case gr23 => exact ⟨_, by first | rfl | kernel_rfl⟩)
    (case gc24 => k_is)
    (case gr24 => exact ⟨_, by first | rfl | kernel_rfl⟩)
    (case gc25 => k_is)
    (case gr25 => exact ⟨_, by first | rfl | kernel_rfl⟩)
    (case gc26 => k_is)
    (case gr26 => exact ⟨_, by first | rfl | kernel_rfl⟩)
    (case gc27 => k_is)
    (case gr27 => exact ⟨_, by first | rfl | kernel_rfl⟩)
    (case gc28 => k_is)
    (case gr28 => exact ⟨_, by first | rfl | kernel_rfl⟩)
    (case gc29 => k_is)
    (case gr29 => exact ⟨_, by first | rfl | kernel_rfl⟩)
    (case gc30 => k_is)
    (case gr30 => exact ⟨_, by first | rfl | kernel_rfl⟩)
    (case gc31 => k_is)
    (case gr31 => exact ⟨_, by first | rfl | kernel_rfl⟩)
    (case gc32 => k_is)
    (case gr32 => exact ⟨_, by first | rfl | kernel_rfl⟩)
    (case gc33 => k_is)
    (case gr33 => exact ⟨_, by first | rfl | kernel_rfl⟩)
    (case gc34 => k_is)
    (case gr34 => exact ⟨_, by first | rfl | kernel_rfl⟩)
    (case gc35 => k_is)
    (case gr35 => kernel_rfl)
    (case gc36 => k_is)
    (case gr36 => exact ⟨_, by first | rfl | kernel_rfl⟩)
    (case a0 => k_is)
    (case l0 => k_is)
    (case c0 => k_is)
    (case k0 => k_is)
    (case a1 => k_is)
    (case l1 => k_is)
    (case c1 => k_is)
    (case k1 => k_is)
    (case a2 => k_is)
    (case l2 => k_is)
    (case c2 => k_is)
    (case k2 => k_is)
    (case a3 => k_is)
    (case l3 => k_is)
    (case c3 => k_is)
    (case k3 => k_is)
    (case a4 => k_is)
    (case l4 => k_is)
    (case c4 => k_is)
    (case k4 => k_is)
    (case a5 => k_is)
    (case l5 => k_is)
    (case c5 => k_is)
    (case k5 => k_is)
    (case a6 => k_is)
    (case l6 => k_is)
    (case c6 => k_is)
    (case k6 => k_is)
    (case a7 => k_is)
    (case l7 => k_is)
    (case c7 => k_is)
    (case k7 => k_is)
    (case a8 => k_is)
    (case l8 => k_is)
    (case c8 => k_is)
    (case k8 => k_is)
    (case a9 => k_is)
    (case l9 => k_is)
    (case c9 => k_is)
    (case k9 => k_is)
    (case a10 => k_is)
    (case l10 => k_is)
    (case c10 => k_is)
    (case k10 => k_is)
    (case a11 => k_is)
    (case l11 => k_is)
    (case c11 => k_is)
    (case k11 => k_is)
    (case a12 => k_is)
    (case l12 => k_is)
    (case c12 => k_is)
    (case k12 => k_is)
    (case a13 => k_is)
    (case l13 => k_is)
    (case c13 => k_is)
    (case k13 => k_is)
    (case a14 => k_is)
    (case l14 => k_is)
    (case c14 => k_is)
    (case k14 => k_is)
    (case a15 => k_is)
    (case l15 => k_is)
    (case c15 => k_is)
    (case k15 => k_is)
    (case z0 => k_is)
    (case z1 => k_is)
    (case z2 => k_is)
    (case z3 => k_is)
    (case z4 => k_is)
    (case z5 => k_is)
    (case z6 => k_is)
    (case z7 => k_is)
