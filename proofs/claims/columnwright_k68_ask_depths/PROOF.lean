import PyProof.Rows.All
import Wide.All
import OpenK.AllK
import Wide.FinOn
import HandS.ForMost
import HandS.ForExc
import HandS.ForSpec
import HandS.Conv
import HandS.TupAny
import HandS.Wide
import HandS.IsInst
import HandS.ExcCtx
import KE.KExcSuper
import HandS.ExcInit
import HandS.ExcField
import HandS.ExcIs
import HandS.TupMul
import PyProof.StrLawsIn
import HandS.Deep
import HandS.Dict
import KE.KDictDisplayH
import HandS.WordsDict
import HandS.TupLen
import HandS.SetKeys
import PyProof.DictMoreH
import HandS.More
import HandS.CallSlots
import HandS.HotCalls
import HandS.Text
import KE.SortData
import HandS.Style
import HandS.Zip
import KE.DataMinMax
import HandS.TupLe
import KE.BitLaws
import HandS.WideBits
import PySem.Challenge.RW_columnwright_k68_ask_depths
set_option Elab.async false
set_option linter.all false
set_option maxRecDepth 100000
set_option maxHeartbeats 4000000
/-! QL: a layer of plain data over the hand layer. Values D have no addresses; what may change stands in numbered cells. -/
namespace QL
open PySem L2

inductive D where
  | non | bl (b : Bool) | int (i : Int) | str (x : Str) | ty (n : String)
  | tup (xs : List D) | lst (xs : List D) | scr (xs : List D) | ktu (xs : List D) | tux (xs : List D)
  | dk (ks : List Key) (vs : List D) | dt (ks : List (List Key)) (vs : List D)
  | obj (C : Addr) (ns : List Str) (vs : List D)

/-- an exception: its class, its fields -/
inductive Ex where
  | own (x : Str) (ns : List Str) (vs : List D)
  | blt (n : String)

inductive P where
  | d (x : D) | loc (n : Nat)
  | exc (a : Addr) (cls : Value) (dd : Option Addr) (ex : Ex)

inductive Cell where
  | lst (xs : List D) | frz (xs : List D)
  | dk (kvs : List (Key × D)) | dt (kvs : List (List Key × D)) | fz (x : D)
  | own (b : Addr) (xs : List D) | dkc (kvs : List (Key × Addr)) | dtc (kvs : List (List Key × Addr)) | lsc (as : List Addr) | ins (C : Addr) (ns : List Str) (vs : List D)

abbrev LS := List Cell
abbrev SS := List (Option P)

/-- a point: the abstract heap, the addresses of the cells, what never changes any more -/
structure Pt where
  H : Hp
  rho : List Addr
  F : Addr → Prop

/-- where the module's name x stands for an object -/
def clsA (K : PySem.W.Frag) (x : Str) : Addr := match PySem.W.nsIn K mainGlobals x with
  | some (some (.ref a)) => a
  | _ => 0
section
variable (K : PySem.W.Frag)
def TupAt (_ : PySem.W.Frag) (p : Pt) (a : Addr) (vs : List V) : Prop := p.H a = some (.tup vs)
def LstAt (p : Pt) (a : Addr) (vs : List V) : Prop := p.F a ∧ p.H a = some (.lst vs)
def ScrAt (p : Pt) (a : Addr) (vs : List V) : Prop := (p.F a ∧ Rd p.H a (.lst vs)) ∨ SqL K (fun _ => none) a vs
mutual
inductive RD (p : Pt) : D → V → Prop
  | non : RD p .non .non
  | bl (b : Bool) : RD p (.bl b) (.bl b)
  | int (i : Int) : RD p (.int i) (.int i)
  | str (x : Str) : RD p (.str x) (.str x)
  | ty (n : String) : RD p (.ty n) (.ty n)
  | tup {a : Addr} {xs : List D} {vs : List V} : TupAt K p a vs → RDs p xs vs → RD p (.tup xs) (.ref a)
  | lst {a : Addr} {xs : List D} {vs : List V} : LstAt p a vs → RDs p xs vs → RD p (.lst xs) (.ref a)
  | scr {a : Addr} {xs : List D} {vs : List V} : ScrAt K p a vs → RDs p xs vs → RD p (.scr xs) (.ref a)
  | ktu {a : Addr} {xs : List D} {vs : List V} : SqT K (fun _ => none) a vs → RDs p xs vs → RD p (.ktu xs) (.ref a)
  | tux {a : Addr} {ob : Obj} {xs : List D} {vs : List V} : p.F a → p.H a = some (.frz ob (.tup vs)) → ob.dict = none → RDs p xs vs → RD p (.tux xs) (.ref a)
  | dk {a : Addr} {ob : Obj} {ks : List Key} {xs : List D} {vs : List V} : p.F a → p.H a = some (.frz ob (.dK (ks.zip vs))) → ks.length = xs.length → RDs p xs vs → RD p (.dk ks xs) (.ref a)
  | dt {a : Addr} {ob : Obj} {ks : List (List Key)} {xs : List D} {vs : List V} : p.F a → p.H a = some (.frz ob (.dT (ks.zip vs))) → ks.length = xs.length → RDs p xs vs → RD p (.dt ks xs) (.ref a)
  | obj {a C dx : Addr} {ns : List Str} {xs : List D} {vs : List V} : p.F a → p.H a = some (.ins C dx (ns.zip vs)) → RDs p xs vs → RD p (.obj C ns xs) (.ref a)
inductive RDs (p : Pt) : List D → List V → Prop
  | nil : RDs p [] []
  | cons {x : D} {v : V} {xs : List D} {vs : List V} : RD p x v → RDs p xs vs → RDs p (x :: xs) (v :: vs)
end
def XR (p : Pt) : Ex → Value → Option Addr → Prop
  | .own x ns xs, cls, d => cls = .ref (clsA K x) ∧ ∃ a vs, d = some a ∧ p.F a ∧ p.H a = some (.xd (ns.zip vs)) ∧ RDs K p xs vs
  | .blt n, cls, d => cls = .type n ∧ d = none
def RP (p : Pt) : P → V → Prop
  | .d x, v => RD K p x v
  | .loc n, v => ∃ a, p.rho[n]? = some a ∧ v = .ref a
  | .exc a cls d ex, v => v = .ref a ∧ XR K p ex cls d
def CellOk (p : Pt) : Cell → Addr → Prop
  | .lst xs, a => ¬ p.F a ∧ ∃ vs, p.H a = some (.lst vs) ∧ RDs K p xs vs
  | .frz xs, a => ∃ vs, LstAt p a vs ∧ RDs K p xs vs
  | .dk kvs, a => ¬ p.F a ∧ ∃ vs, p.H a = some (.dK ((kvs.map (·.1)).zip vs)) ∧ RDs K p (kvs.map (·.2)) vs
  | .dt kvs, a => ¬ p.F a ∧ ∃ vs, p.H a = some (.dT ((kvs.map (·.1)).zip vs)) ∧ RDs K p (kvs.map (·.2)) vs
  | .fz x, a => RD K p x (.ref a)
  | .own b xs, a => a = b ∧ ¬ p.F a ∧ ∃ vs, p.H a = some (.lst vs) ∧ RDs K p xs vs
  | .dkc kvs, a => ¬ p.F a ∧ p.H a = some (.dK (kvs.map fun q => (q.1, V.ref q.2)))
  | .dtc kvs, a => ¬ p.F a ∧ p.H a = some (.dT (kvs.map fun q => (q.1, V.ref q.2)))
  | .lsc as, a => ¬ p.F a ∧ p.H a = some (.lst (as.map V.ref))
  | .ins C ns xs, a => ¬ p.F a ∧ ∃ dx vs, p.H a = some (.ins C dx (ns.zip vs)) ∧ ns.length = xs.length ∧ RDs K p xs vs
structure WF (p : Pt) : Prop where
  nd : p.rho.Nodup
  hs : ∀ a ∈ p.rho, ∃ o, p.H a = some o
  fs : ∀ a, p.F a → ∃ o, p.H a = some o
structure HF (p p' : Pt) : Prop where
  fm : ∀ a, p.F a → p'.F a
  keepF : ∀ b o, p.H b = some o → p.F b → p'.H b = some o
  tups : ∀ b vs, p.H b = some (.tup vs) → p'.H b = some (.tup vs)
structure Ext (p p' : Pt) : Prop where
  pre : ∃ t, p'.rho = p.rho ++ t
  new : ∀ a ∈ p'.rho, a ∈ p.rho ∨ p.H a = none
  fm : ∀ a, p.F a → p'.F a
  fn : ∀ a, p'.F a → p.F a ∨ p.H a = none ∨ a ∈ p.rho
  keep : ∀ b o, p.H b = some o → b ∉ p.rho → p'.H b = some o
  keepF : ∀ b o, p.H b = some o → p.F b → p'.H b = some o
  there : ∀ b o, p.H b = some o → ∃ o', p'.H b = some o'
  tups : ∀ b vs, p.H b = some (.tup vs) → p'.H b = some (.tup vs)
def Cells (p : Pt) (l : LS) : Prop := l.length = p.rho.length ∧ ∀ (i : Nat) (c : Cell), l[i]? = some c → ∃ a, p.rho[i]? = some a ∧ CellOk K p c a
def Slots (p : Pt) (σd : SS) (σ : St) : Prop := σd.length = σ.length ∧ ∀ (i : Nat) (d : P), σd[i]? = some (some d) → ∃ v, σ[i]? = some (some v) ∧ RP K p d v
structure Rel (p : Pt) (σ : St) (σd : SS) (l : LS) : Prop where
  wf : WF p
  sl : Slots K p σd σ
  ce : Cells K p l
end

section
variable {K : PySem.W.Frag} {p p' p'' : Pt} {a : Addr}
theorem Ext.refl (p : Pt) : Ext p p := ⟨⟨[], by simp⟩, fun _ h => .inl h, fun _ h => h, fun _ h => .inl h, fun _ _ h _ => h, fun _ _ h _ => h, fun _ o h => ⟨o, h⟩, fun _ _ h => h⟩
theorem none_back (e : Ext p p') (h : p'.H a = none) : p.H a = none := by
  cases q : p.H a with
  | none => rfl
  | some o =>
    obtain ⟨o', z⟩ := e.there _ _ q
    rw [h] at z
    cases z
theorem Ext.trans (e : Ext p p') (f : Ext p' p'') : Ext p p'' := by
  obtain ⟨t, ht⟩ := e.pre
  obtain ⟨u, hu⟩ := f.pre
  refine ⟨⟨t ++ u, by rw [hu, ht, List.append_assoc]⟩, fun a h => ?_, fun a h => f.fm a (e.fm a h), fun a h => ?_, fun b o h n => ?_, fun b o h n => f.keepF b o (e.keepF b o h n) (e.fm b n), fun b o h => ?_, fun b vs h => f.tups b vs (e.tups b vs h)⟩
  · rcases f.new a h with h | h
    · exact e.new a h
    · exact .inr (none_back e h)
  · rcases f.fn a h with h | h | h
    · exact e.fn a h
    · exact .inr (.inl (none_back e h))
    · rcases e.new a h with h | h
      · exact .inr (.inr h)
      · exact .inr (.inl h)
  · by_cases m : b ∈ p'.rho
    · rcases e.new b m with z | z
      · exact absurd z n
      · rw [h] at z; cases z
    · exact f.keep b o (e.keep b o h n) m
  · obtain ⟨o', h'⟩ := e.there b o h
    exact f.there b o' h'
theorem rd_keep {H H' : Hp} {u : HO} (h : Rd H a u) (k : ∀ o, H a = some o → H' a = some o) : Rd H' a u := by
  rcases h with h | ⟨o, h⟩
  · exact .inl (k _ h)
  · exact .inr ⟨o, k _ h⟩
theorem Ext.hf (e : Ext p p') : HF p p' := ⟨e.fm, e.keepF, e.tups⟩
theorem TupAt.mono {vs : List V} (e : HF p p') (h : TupAt K p a vs) : TupAt K p' a vs := e.tups _ _ h
theorem LstAt.mono {vs : List V} (e : HF p p') (h : LstAt p a vs) : LstAt p' a vs := ⟨e.fm _ h.1, e.keepF _ _ h.2 h.1⟩
theorem ScrAt.mono {vs : List V} (e : HF p p') (h : ScrAt K p a vs) : ScrAt K p' a vs := by
  rcases h with ⟨f, h⟩ | h
  · exact .inl ⟨e.fm _ f, rd_keep h fun o z => e.keepF _ _ z f⟩
  · exact .inr h
theorem seqT_empty {H : Hp} {vs : List V} (h : SqT K (fun _ => none) a vs) : SqT K H a vs := by
  rcases h with (h | ⟨o, h⟩) | h
  · cases h
  · cases h
  · exact .inr h
theorem seqL_empty {H : Hp} {vs : List V} (h : SqL K (fun _ => none) a vs) : SqL K H a vs := by
  rcases h with (h | ⟨o, h⟩) | h
  · cases h
  · cases h
  · exact .inr h
theorem TupAt.sq {vs : List V} (h : TupAt K p a vs) : SqT K p.H a vs := .inl (.inl h)
theorem LstAt.sq {vs : List V} (h : LstAt p a vs) : SqL K p.H a vs := .inl (.inl h.2)
theorem ScrAt.sq {vs : List V} (h : ScrAt K p a vs) : SqL K p.H a vs := by
  rcases h with ⟨_, h⟩ | h
  · exact .inl h
  · exact seqL_empty h
mutual
theorem RD.mono (e : HF p p') : ∀ {x : D} {v : V}, RD K p x v → RD K p' x v
  | _, _, .non => .non
  | _, _, .bl b => .bl b
  | _, _, .int i => .int i
  | _, _, .str x => .str x
  | _, _, .ty n => .ty n
  | _, _, .tup h r => .tup (h.mono e) (RDs.mono e r)
  | _, _, .lst h r => .lst (h.mono e) (RDs.mono e r)
  | _, _, .scr h r => .scr (h.mono e) (RDs.mono e r)
  | _, _, .ktu h r => .ktu h (RDs.mono e r)
  | _, _, .tux f h n r => .tux (e.fm _ f) (e.keepF _ _ h f) n (RDs.mono e r)
  | _, _, .dk f h n r => .dk (e.fm _ f) (e.keepF _ _ h f) n (RDs.mono e r)
  | _, _, .dt f h n r => .dt (e.fm _ f) (e.keepF _ _ h f) n (RDs.mono e r)
  | _, _, .obj f h r => .obj (e.fm _ f) (e.keepF _ _ h f) (RDs.mono e r)
theorem RDs.mono (e : HF p p') : ∀ {xs : List D} {vs : List V}, RDs K p xs vs → RDs K p' xs vs
  | _, _, .nil => .nil
  | _, _, .cons h r => .cons (RD.mono e h) (RDs.mono e r)
end
theorem RDs.len : ∀ {xs : List D} {vs : List V}, RDs K p xs vs → xs.length = vs.length
  | _, _, .nil => rfl
  | _, _, .cons _ r => by simp [RDs.len r]
theorem RDs.get : ∀ {xs : List D} {vs : List V} {i : Nat} {x : D}, RDs K p xs vs → xs[i]? = some x → ∃ v, vs[i]? = some v ∧ RD K p x v
  | _, _, _, _, .nil, h => by simp at h
  | _, _, 0, _, .cons h _, e => ⟨_, rfl, by simp at e; rw [← e]; exact h⟩
  | _, _, i + 1, _, .cons _ r, e => by
    obtain ⟨v, h1, h2⟩ := RDs.get (i := i) r (by simpa using e)
    exact ⟨v, by simpa using h1, h2⟩
theorem RDs.append : ∀ {xs ys : List D} {vs ws : List V}, RDs K p xs vs → RDs K p ys ws → RDs K p (xs ++ ys) (vs ++ ws)
  | _, _, _, _, .nil, s => s
  | _, _, _, _, .cons h r, s => .cons h (RDs.append r s)
theorem RDs.set {x : D} {v : V} (h : RD K p x v) : ∀ {xs : List D} {vs : List V} (i : Nat), RDs K p xs vs → RDs K p (xs.set i x) (vs.set i v)
  | _, _, _, .nil => .nil
  | _, _, 0, .cons _ t => .cons h t
  | _, _, i + 1, .cons q t => .cons q (RDs.set h i t)
theorem RDs.take : ∀ {xs : List D} {vs : List V} (n : Nat), RDs K p xs vs → RDs K p (xs.take n) (vs.take n)
  | _, _, 0, _ => .nil
  | _, _, _ + 1, .nil => .nil
  | _, _, n + 1, .cons h t => .cons h (RDs.take n t)
theorem RDs.drop : ∀ {xs : List D} {vs : List V} (n : Nat), RDs K p xs vs → RDs K p (xs.drop n) (vs.drop n)
  | _, _, 0, h => h
  | _, _, _ + 1, .nil => .nil
  | _, _, n + 1, .cons _ t => RDs.drop n t
theorem RDs.reverse : ∀ {xs : List D} {vs : List V}, RDs K p xs vs → RDs K p xs.reverse vs.reverse
  | _, _, .nil => .nil
  | _, _, .cons h r => by
    rw [List.reverse_cons, List.reverse_cons]
    exact RDs.append (RDs.reverse r) (.cons h .nil)
theorem RDs.eraseIdx : ∀ {xs : List D} {vs : List V} (n : Nat), RDs K p xs vs → RDs K p (xs.eraseIdx n) (vs.eraseIdx n)
  | _, _, _, .nil => .nil
  | _, _, 0, .cons _ t => t
  | _, _, n + 1, .cons h t => .cons h (RDs.eraseIdx n t)
theorem RDs.dropLast {xs : List D} {vs : List V} (h : RDs K p xs vs) : RDs K p xs.dropLast vs.dropLast := by
  rw [List.dropLast_eq_take, List.dropLast_eq_take, h.len]
  exact h.take _
theorem XR.mono (e : HF p p') {ex : Ex} {c : Value} {d : Option Addr} (h : XR K p ex c d) : XR K p' ex c d := by
  cases ex with
  | own C ns xs =>
    obtain ⟨h1, a, vs, h2, f, h3, h4⟩ := h
    exact ⟨h1, a, vs, h2, e.fm _ f, e.keepF _ _ h3 f, h4.mono e⟩
  | blt n => exact h
theorem RP.mono (e : Ext p p') {x : P} {v : V} (h : RP K p x v) : RP K p' x v := by
  cases x with
  | d x => exact RD.mono e.hf h
  | loc n =>
    obtain ⟨a, h1, h2⟩ := h
    obtain ⟨t, ht⟩ := e.pre
    refine ⟨a, ?_, h2⟩
    rw [ht, List.getElem?_append_left]
    · exact h1
    · exact (List.getElem?_eq_some_iff.mp h1).1
  | exc a c d ex => exact ⟨h.1, h.2.mono e.hf⟩
theorem Slots.mono (e : Ext p p') {σ : St} {σd : SS} (h : Slots K p σd σ) : Slots K p' σd σ := ⟨h.1, fun i d q => by
  obtain ⟨v, h1, h2⟩ := h.2 i d q
  exact ⟨v, h1, h2.mono e⟩⟩
theorem Slots.set {σ : St} {σd : SS} (h : Slots K p σd σ) {i : Nat} {d : P} {v : V} (r : RP K p d v) : Slots K p (σd.set i (some d)) (σ.set i (some v)) := by
  refine ⟨by simp [h.1], fun j d' q => ?_⟩
  by_cases e : i = j
  · subst e
    by_cases hl : i < σd.length
    · rw [List.getElem?_set_self hl] at q
      cases q
      exact ⟨v, List.getElem?_set_self (by rw [← h.1]; exact hl), r⟩
    · rw [List.getElem?_eq_none (by simpa using hl)] at q
      cases q
  · rw [List.getElem?_set_ne e] at q ⊢
    exact h.2 j d' q
theorem Slots.setNone {σ : St} {σd : SS} (h : Slots K p σd σ) {i : Nat} : Slots K p (σd.set i none) (σ.set i none) := by
  refine ⟨by simp [h.1], fun j d' q => ?_⟩
  by_cases e : i = j
  · subst e
    by_cases hl : i < σd.length
    · rw [List.getElem?_set_self hl] at q
      cases q
    · rw [List.getElem?_eq_none (by simpa using hl)] at q
      cases q
  · rw [List.getElem?_set_ne e] at q ⊢
    exact h.2 j d' q

/-- a new thing that never changes -/
abbrev Pt.frz (p : Pt) (a : Addr) (o : HO) : Pt := ⟨upd p.H a o, p.rho, fun b => p.F b ∨ b = a⟩
/-- a new cell -/
abbrev Pt.new (p : Pt) (a : Addr) (o : HO) : Pt := ⟨upd p.H a o, p.rho ++ [a], p.F⟩
/-- a cell written -/
abbrev Pt.put (p : Pt) (a : Addr) (o : HO) : Pt := ⟨upd p.H a o, p.rho, p.F⟩
/-- a cell that will not change any more -/
abbrev Pt.ice (p : Pt) (a : Addr) : Pt := ⟨p.H, p.rho, fun b => p.F b ∨ b = a⟩
theorem upd_some {H : Hp} {b : Addr} {o u : HO} (h : H b = some u) : ∃ z, upd H a o b = some z := by
  by_cases e : b = a
  · exact ⟨o, by rw [e, upd_same]⟩
  · exact ⟨u, by rw [upd_ne e]; exact h⟩
theorem WF.nrho (w : WF p) (h : p.H a = none) : a ∉ p.rho := fun m => by
  obtain ⟨o, z⟩ := w.hs a m
  rw [h] at z; cases z
theorem WF.nF (w : WF p) (h : p.H a = none) : ¬ p.F a := fun m => by
  obtain ⟨o, z⟩ := w.fs a m
  rw [h] at z; cases z
theorem ext_frz {o : HO} (h : p.H a = none) : Ext p (p.frz a o) := by
  refine ⟨⟨[], by simp⟩, fun _ z => .inl z, fun _ z => .inl z, fun b z => ?_, fun b u z _ => ?_, fun b u z _ => ?_, fun b u z => upd_some z, fun b u z => by show upd _ _ _ _ = _; rw [upd_ne (ne_of_none z h)]; exact z⟩
  · rcases z with z | z
    · exact .inl z
    · exact .inr (.inl (by rw [z]; exact h))
  · show upd _ _ _ _ = _
    rw [upd_ne (ne_of_none z h)]; exact z
  · show upd _ _ _ _ = _
    rw [upd_ne (ne_of_none z h)]; exact z
theorem wf_frz {o : HO} (w : WF p) : WF (p.frz a o) := by
  refine ⟨w.nd, fun b m => ?_, fun b m => ?_⟩
  · obtain ⟨u, z⟩ := w.hs b m
    exact upd_some z
  · rcases m with m | m
    · obtain ⟨u, z⟩ := w.fs b m
      exact upd_some z
    · exact ⟨o, by show upd _ _ _ _ = _; rw [m, upd_same]⟩
theorem ext_new {o : HO} (h : p.H a = none) : Ext p (p.new a o) := by
  refine ⟨⟨[a], rfl⟩, fun b z => ?_, fun _ z => z, fun b z => .inl z, fun b u z _ => ?_, fun b u z _ => ?_, fun b u z => upd_some z, fun b u z => by show upd _ _ _ _ = _; rw [upd_ne (ne_of_none z h)]; exact z⟩
  · rcases List.mem_append.mp z with z | z
    · exact .inl z
    · simp at z
      exact .inr (by rw [z]; exact h)
  · show upd _ _ _ _ = _
    rw [upd_ne (ne_of_none z h)]; exact z
  · show upd _ _ _ _ = _
    rw [upd_ne (ne_of_none z h)]; exact z
theorem wf_new {o : HO} (w : WF p) (h : p.H a = none) : WF (p.new a o) := by
  refine ⟨?_, fun b m => ?_, fun b m => ?_⟩
  · show (p.rho ++ [a]).Nodup
    rw [List.nodup_append]
    refine ⟨w.nd, by simp, fun x hx y hy e => ?_⟩
    simp at hy
    subst hy; subst e
    exact w.nrho h hx
  · rcases List.mem_append.mp m with m | m
    · obtain ⟨u, z⟩ := w.hs b m
      exact upd_some z
    · simp at m
      exact ⟨o, by show upd _ _ _ _ = _; rw [m, upd_same]⟩
  · obtain ⟨u, z⟩ := w.fs b m
    exact upd_some z
theorem ext_put {o : HO} (hr : a ∈ p.rho) (hf : ¬ p.F a) (ht : ∀ vs, p.H a ≠ some (.tup vs)) : Ext p (p.put a o) := by
  refine ⟨⟨[], by simp⟩, fun _ z => .inl z, fun _ z => z, fun b z => .inl z, fun b u z n => ?_, fun b u z n => ?_, fun b u z => upd_some z, fun b u z => by show upd _ _ _ _ = _; rw [upd_ne (fun e => ht u (by rw [← e]; exact z))]; exact z⟩
  · show upd _ _ _ _ = _
    rw [upd_ne (fun e => n (by rw [e]; exact hr))]; exact z
  · show upd _ _ _ _ = _
    rw [upd_ne (fun e => hf (by rw [← e]; exact n))]; exact z
theorem wf_put {o : HO} (w : WF p) : WF (p.put a o) := by
  refine ⟨w.nd, fun b m => ?_, fun b m => ?_⟩
  · obtain ⟨u, z⟩ := w.hs b m
    exact upd_some z
  · obtain ⟨u, z⟩ := w.fs b m
    exact upd_some z
theorem ext_ice (hr : a ∈ p.rho) : Ext p (p.ice a) := by
  refine ⟨⟨[], by simp⟩, fun _ z => .inl z, fun _ z => .inl z, fun b z => ?_, fun b u z n => z, fun b u z n => z, fun b u z => ⟨u, z⟩, fun _ _ z => z⟩
  rcases z with z | z
  · exact .inl z
  · exact .inr (.inr (by rw [z]; exact hr))
theorem wf_ice (w : WF p) (hr : a ∈ p.rho) : WF (p.ice a) := by
  refine ⟨w.nd, w.hs, fun b m => ?_⟩
  rcases m with m | m
  · exact w.fs b m
  · rw [m]; exact w.hs a hr
theorem CellOk.mono {c : Cell} {b : Addr} (e : Ext p p') (h : CellOk K p c b) (k : p'.H b = p.H b) (kf : p'.F b → p.F b) : CellOk K p' c b := by
  cases c with
  | lst xs =>
    obtain ⟨nf, vs, h1, h2⟩ := h
    exact ⟨fun z => nf (kf z), vs, by rw [k]; exact h1, h2.mono e.hf⟩
  | frz xs =>
    obtain ⟨vs, h1, h2⟩ := h
    exact ⟨vs, h1.mono e.hf, h2.mono e.hf⟩
  | dk xs =>
    obtain ⟨nf, vs, h1, h2⟩ := h
    exact ⟨fun z => nf (kf z), vs, by rw [k]; exact h1, h2.mono e.hf⟩
  | dt xs =>
    obtain ⟨nf, vs, h1, h2⟩ := h
    exact ⟨fun z => nf (kf z), vs, by rw [k]; exact h1, h2.mono e.hf⟩
  | fz x => exact RD.mono e.hf h
  | own c xs =>
    obtain ⟨eb, nf, vs, h1, h2⟩ := h
    exact ⟨eb, fun z => nf (kf z), vs, by rw [k]; exact h1, h2.mono e.hf⟩
  | dkc kvs =>
    obtain ⟨nf, h1⟩ := h
    exact ⟨fun z => nf (kf z), by rw [k]; exact h1⟩
  | dtc kvs =>
    obtain ⟨nf, h1⟩ := h
    exact ⟨fun z => nf (kf z), by rw [k]; exact h1⟩
  | lsc as =>
    obtain ⟨nf, h1⟩ := h
    exact ⟨fun z => nf (kf z), by rw [k]; exact h1⟩
  | ins C ns xs =>
    obtain ⟨nf, dx, vs, h1, hl, h2⟩ := h
    exact ⟨fun z => nf (kf z), dx, vs, by rw [k]; exact h1, hl, h2.mono e.hf⟩
theorem CellOk.hf {c : Cell} {b : Addr} (h : CellOk K p c b) (e : HF p p') (k : p'.H b = p.H b) (kf : p'.F b → p.F b) : CellOk K p' c b := by
  cases c with
  | lst xs =>
    obtain ⟨nf, vs, h1, h2⟩ := h
    exact ⟨fun z => nf (kf z), vs, by rw [k]; exact h1, h2.mono e⟩
  | frz xs =>
    obtain ⟨vs, h1, h2⟩ := h
    exact ⟨vs, h1.mono e, h2.mono e⟩
  | dk xs =>
    obtain ⟨nf, vs, h1, h2⟩ := h
    exact ⟨fun z => nf (kf z), vs, by rw [k]; exact h1, h2.mono e⟩
  | dt xs =>
    obtain ⟨nf, vs, h1, h2⟩ := h
    exact ⟨fun z => nf (kf z), vs, by rw [k]; exact h1, h2.mono e⟩
  | fz x => exact RD.mono e h
  | own c xs =>
    obtain ⟨eb, nf, vs, h1, h2⟩ := h
    exact ⟨eb, fun z => nf (kf z), vs, by rw [k]; exact h1, h2.mono e⟩
  | dkc kvs =>
    obtain ⟨nf, h1⟩ := h
    exact ⟨fun z => nf (kf z), by rw [k]; exact h1⟩
  | dtc kvs =>
    obtain ⟨nf, h1⟩ := h
    exact ⟨fun z => nf (kf z), by rw [k]; exact h1⟩
  | lsc as =>
    obtain ⟨nf, h1⟩ := h
    exact ⟨fun z => nf (kf z), by rw [k]; exact h1⟩
  | ins C ns xs =>
    obtain ⟨nf, dx, vs, h1, hl, h2⟩ := h
    exact ⟨fun z => nf (kf z), dx, vs, by rw [k]; exact h1, hl, h2.mono e⟩
theorem Cells.get {l : LS} {i : Nat} {c : Cell} (h : Cells K p l) (e : l[i]? = some c) : ∃ a, p.rho[i]? = some a ∧ CellOk K p c a := h.2 i c e
theorem Cells.frz {l : LS} {o : HO} (w : WF p) (ce : Cells K p l) (h : p.H a = none) : Cells K (p.frz a o) l := by
  refine ⟨ce.1, fun i c e => ?_⟩
  obtain ⟨b, h1, h2⟩ := ce.2 i c e
  have nb : b ≠ a := fun z => w.nrho h (by rw [← z]; exact List.mem_of_getElem? h1)
  refine ⟨b, h1, h2.mono (ext_frz h) (by show upd _ _ _ _ = _; rw [upd_ne nb]) fun z => ?_⟩
  rcases z with z | z
  · exact z
  · exact absurd z nb
theorem Cells.new {l : LS} {o : HO} {c : Cell} (w : WF p) (ce : Cells K p l) (h : p.H a = none) (hc : CellOk K (p.new a o) c a) : Cells K (p.new a o) (l ++ [c]) := by
  refine ⟨by simp [ce.1], fun i d e => ?_⟩
  by_cases hi : i < l.length
  · rw [List.getElem?_append_left hi] at e
    obtain ⟨b, h1, h2⟩ := ce.2 i d e
    have nb : b ≠ a := fun z => w.nrho h (by rw [← z]; exact List.mem_of_getElem? h1)
    refine ⟨b, ?_, h2.mono (ext_new h) (by show upd _ _ _ _ = _; rw [upd_ne nb]) fun z => z⟩
    show (p.rho ++ [a])[i]? = _
    rw [List.getElem?_append_left (by rw [← ce.1]; exact hi)]
    exact h1
  · have hi' : i = l.length := by
      have := (List.getElem?_eq_some_iff.mp e).1
      simp at this
      omega
    subst hi'
    rw [List.getElem?_append_right (Nat.le_refl _)] at e
    simp at e
    subst e
    refine ⟨a, ?_, hc⟩
    show (p.rho ++ [a])[l.length]? = _
    rw [ce.1, List.getElem?_append_right (Nat.le_refl _)]
    simp
theorem nodup_at {xs : List Addr} (nd : xs.Nodup) {i j : Nat} {a : Addr} (h : xs[i]? = some a) (h' : xs[j]? = some a) : i = j := by
  obtain ⟨h1, e1⟩ := List.getElem?_eq_some_iff.mp h
  obtain ⟨h2, e2⟩ := List.getElem?_eq_some_iff.mp h'
  exact (List.getElem_inj nd).mp (e1.trans e2.symm)
theorem Cells.put {l : LS} {o : HO} {c : Cell} {i : Nat} (w : WF p) (ce : Cells K p l) (hi : p.rho[i]? = some a) (nf : ¬ p.F a) (ht : ∀ vs, p.H a ≠ some (.tup vs)) (hc : CellOk K (p.put a o) c a) : Cells K (p.put a o) (l.set i c) := by
  refine ⟨by simp [ce.1], fun j d e => ?_⟩
  by_cases hj : i = j
  · subst hj
    have hl : i < l.length := by
      have := (List.getElem?_eq_some_iff.mp e).1
      simpa using this
    rw [List.getElem?_set_self hl] at e
    cases e
    exact ⟨a, hi, hc⟩
  · rw [List.getElem?_set_ne hj] at e
    obtain ⟨b, h1, h2⟩ := ce.2 j d e
    have nb : b ≠ a := fun z => hj (nodup_at w.nd hi (by rw [← z]; exact h1))
    exact ⟨b, h1, h2.mono (ext_put (List.mem_of_getElem? hi) nf ht) (by show upd _ _ _ _ = _; rw [upd_ne nb]) fun z => z⟩
/-- a cell locked for ever -/
abbrev Pt.lck (p : Pt) (a : Addr) (o : HO) : Pt := ⟨upd p.H a o, p.rho, fun b => p.F b ∨ b = a⟩
theorem ext_lck {o : HO} (hr : a ∈ p.rho) (hf : ¬ p.F a) (ht : ∀ vs, p.H a ≠ some (.tup vs)) : Ext p (p.lck a o) := by
  refine ⟨⟨[], by simp⟩, fun _ z => .inl z, fun _ z => .inl z, fun b z => ?_, fun b u z n => ?_, fun b u z n => ?_, fun b u z => upd_some z, fun b u z => by show upd _ _ _ _ = _; rw [upd_ne (fun e => ht u (by rw [← e]; exact z))]; exact z⟩
  · rcases z with z | z
    · exact .inl z
    · exact .inr (.inr (by rw [z]; exact hr))
  · show upd _ _ _ _ = _
    rw [upd_ne (fun e => n (by rw [e]; exact hr))]; exact z
  · show upd _ _ _ _ = _
    rw [upd_ne (fun e => hf (by rw [← e]; exact n))]; exact z
theorem wf_lck {o : HO} (w : WF p) : WF (p.lck a o) := by
  refine ⟨w.nd, fun b m => ?_, fun b m => ?_⟩
  · obtain ⟨u, z⟩ := w.hs b m
    exact upd_some z
  · rcases m with m | m
    · obtain ⟨u, z⟩ := w.fs b m
      exact upd_some z
    · exact ⟨o, by show upd _ _ _ _ = _; rw [m, upd_same]⟩
theorem Cells.lck {l : LS} {o : HO} {c c' : Cell} {i : Nat} (w : WF p) (ce : Cells K p l) (hi : p.rho[i]? = some a) (hc' : l[i]? = some c') (nf : ¬ p.F a) (ht : ∀ vs, p.H a ≠ some (.tup vs)) (hc : CellOk K (p.lck a o) c a) : Cells K (p.lck a o) (l.set i c) := by
  have hr := List.mem_of_getElem? hi
  refine ⟨by simp [ce.1], fun j d e' => ?_⟩
  by_cases hj : i = j
  · subst hj
    have hl : i < l.length := (List.getElem?_eq_some_iff.mp hc').1
    rw [List.getElem?_set_self hl] at e'
    cases e'
    exact ⟨a, hi, hc⟩
  · rw [List.getElem?_set_ne hj] at e'
    obtain ⟨b, h1, h2⟩ := ce.2 j d e'
    have nb : b ≠ a := fun z => hj (nodup_at w.nd hi (by rw [← z]; exact h1))
    refine ⟨b, h1, h2.mono (ext_lck hr nf ht) (by show upd _ _ _ _ = _; rw [upd_ne nb]) fun z => ?_⟩
    rcases z with z | z
    · exact z
    · exact absurd z nb
theorem Cells.iceD {l : LS} {c : Cell} {x : D} {i : Nat} (w : WF p) (ce : Cells K p l) (hi : p.rho[i]? = some a) (_ : l[i]? = some c) (hx : RD K (p.ice a) x (.ref a)) : Cells K (p.ice a) (l.set i (.fz x)) := by
  have hr := List.mem_of_getElem? hi
  have ex := ext_ice hr
  refine ⟨by simp [ce.1], fun j d e' => ?_⟩
  by_cases hj : i = j
  · subst hj
    have hl : i < l.length := (List.getElem?_eq_some_iff.mp ‹l[i]? = some c›).1
    rw [List.getElem?_set_self hl] at e'
    cases e'
    exact ⟨a, hi, hx⟩
  · rw [List.getElem?_set_ne hj] at e'
    obtain ⟨b, h1, h2⟩ := ce.2 j d e'
    have nb : b ≠ a := fun z => hj (nodup_at w.nd hi (by rw [← z]; exact h1))
    refine ⟨b, h1, h2.mono ex rfl fun z => ?_⟩
    rcases z with z | z
    · exact z
    · exact absurd z nb
theorem Cells.iceL {l : LS} {c : Cell} {xs : List D} {vs : List V} {i : Nat} (w : WF p) (ce : Cells K p l) (hi : p.rho[i]? = some a) (e : l[i]? = some c) (la : LstAt (p.ice a) a vs) (rv : RDs K (p.ice a) xs vs) : Cells K (p.ice a) (l.set i (.frz xs)) := by
  have hr := List.mem_of_getElem? hi
  have ex := ext_ice hr
  refine ⟨by simp [ce.1], fun j d e' => ?_⟩
  by_cases hj : i = j
  · subst hj
    have hl : i < l.length := (List.getElem?_eq_some_iff.mp e).1
    rw [List.getElem?_set_self hl] at e'
    cases e'
    exact ⟨a, hi, vs, la, rv⟩
  · rw [List.getElem?_set_ne hj] at e'
    obtain ⟨b, h1, h2⟩ := ce.2 j d e'
    have nb : b ≠ a := fun z => hj (nodup_at w.nd hi (by rw [← z]; exact h1))
    refine ⟨b, h1, h2.mono ex rfl fun z => ?_⟩
    rcases z with z | z
    · exact z
    · exact absurd z nb
theorem Cells.ice {l : LS} {xs : List D} {i : Nat} (w : WF p) (ce : Cells K p l) (hi : p.rho[i]? = some a) (e : l[i]? = some (.lst xs)) : Cells K (p.ice a) (l.set i (.frz xs)) ∧ RD K (p.ice a) (.lst xs) (.ref a) := by
  have hr := List.mem_of_getElem? hi
  have ex := ext_ice hr
  obtain ⟨b, h1, nf, vs, h2, h3⟩ := ce.2 i _ e
  rw [hi] at h1
  cases h1
  have la : LstAt (p.ice a) a vs := ⟨.inr rfl, h2⟩
  refine ⟨⟨by simp [ce.1], fun j d e' => ?_⟩, .lst la (h3.mono ex.hf)⟩
  by_cases hj : i = j
  · subst hj
    have hl : i < l.length := (List.getElem?_eq_some_iff.mp e).1
    rw [List.getElem?_set_self hl] at e'
    cases e'
    exact ⟨a, hi, vs, la, h3.mono ex.hf⟩
  · rw [List.getElem?_set_ne hj] at e'
    obtain ⟨b, h1, h2⟩ := ce.2 j d e'
    have nb : b ≠ a := fun z => hj (nodup_at w.nd hi (by rw [← z]; exact h1))
    refine ⟨b, h1, h2.mono ex rfl fun z => ?_⟩
    rcases z with z | z
    · exact z
    · exact absurd z nb
end
end QL
set_option Elab.async false
set_option linter.all false
set_option maxRecDepth 100000
set_option maxHeartbeats 4000000
/-! QL2: the judgements over plain data, names, constants, operators, tests, blocks. -/
namespace QL
open PySem L2

abbrev EK := Ex → LS → Prop
abbrev WE := SS → LS → (P → LS → Prop) → EK → Prop
abbrev WT := SS → LS → (Bool → LS → Prop) → EK → Prop
abbrev WA := SS → LS → (List P → LS → Prop) → EK → Prop
structure ED where
  nx : SS → LS → Prop
  rt : P → LS → Prop
  bk : SS → LS → Prop
  ct : SS → LS → Prop
  ex : Ex → SS → LS → Prop
abbrev WS := ED → SS → LS → Prop
abbrev WG := P → SS → LS → (SS → LS → Prop) → Prop
abbrev WGs := List D → SS → LS → (SS → LS → Prop) → Prop

section
variable (K : PySem.W.Frag) (W : WX)
def LinkE (p : Pt) (σ : St) (σd : SS) (E : EK) : Prop := ∀ ex l' cls d p', Ext p p' → Rel K p' σ σd l' → XR K p' ex cls d → E ex l' → W cls d σ p'.H
def cE (w : WE) : TE := fun σ H Q => ∃ (p : Pt) (σd : SS) (l : LS) (Qd : P → LS → Prop) (Ed : EK), p.H = H ∧ Rel K p σ σd l ∧ w σd l Qd Ed ∧
  (∀ d l' v p', Ext p p' → Rel K p' σ σd l' → RP K p' d v → Qd d l' → Q v p'.H) ∧ LinkE K W p σ σd Ed
def cT (w : WT) : TT := fun σ H Q => ∃ (p : Pt) (σd : SS) (l : LS) (Qd : Bool → LS → Prop) (Ed : EK), p.H = H ∧ Rel K p σ σd l ∧ w σd l Qd Ed ∧
  (∀ b l' p', Ext p p' → Rel K p' σ σd l' → Qd b l' → Q b p'.H) ∧ LinkE K W p σ σd Ed
def RPs (p : Pt) : List P → List V → Prop := Paired (RP K p)
def cA (w : WA) : TA := fun σ H Q => ∃ (p : Pt) (σd : SS) (l : LS) (Qd : List P → LS → Prop) (Ed : EK), p.H = H ∧ Rel K p σ σd l ∧ w σd l Qd Ed ∧
  (∀ ds l' vs p', Ext p p' → Rel K p' σ σd l' → RPs K p' ds vs → Qd ds l' → Q vs p'.H) ∧ LinkE K W p σ σd Ed
structure EndsR (p : Pt) (D : Ends) (Dd : ED) : Prop where
  nx : ∀ p' σ' σd' l', Ext p p' → Rel K p' σ' σd' l' → Dd.nx σd' l' → D.nx σ' p'.H
  bk : ∀ p' σ' σd' l', Ext p p' → Rel K p' σ' σd' l' → Dd.bk σd' l' → D.bk σ' p'.H
  ct : ∀ p' σ' σd' l', Ext p p' → Rel K p' σ' σd' l' → Dd.ct σd' l' → D.ct σ' p'.H
  rt : ∀ p' d v l', Ext p p' → WF p' → Cells K p' l' → RP K p' d v → Dd.rt d l' → D.rt v p'.H
  ex : ∀ p' σ' σd' l' ex cls dd, Ext p p' → Rel K p' σ' σd' l' → XR K p' ex cls dd → Dd.ex ex σd' l' → W cls dd σ' p'.H
def cS (w : WS) : TS := fun D σ H => ∃ (p : Pt) (σd : SS) (l : LS) (Dd : ED), p.H = H ∧ Rel K p σ σd l ∧ w Dd σd l ∧ EndsR K W p D Dd
def cG (w : WG) : TG := fun v σ H Q => ∃ (p : Pt) (σd : SS) (l : LS) (d : P) (Qd : SS → LS → Prop), p.H = H ∧ Rel K p σ σd l ∧ RP K p d v ∧ w d σd l Qd ∧
  (∀ p' σ' σd' l', Ext p p' → Rel K p' σ' σd' l' → Qd σd' l' → Q σ' p'.H)
def cGs (w : WGs) : TGs := fun vs σ H Q => ∃ (p : Pt) (σd : SS) (l : LS) (ds : List D) (Qd : SS → LS → Prop), p.H = H ∧ Rel K p σ σd l ∧ RDs K p ds vs ∧ w ds σd l Qd ∧
  (∀ p' σ' σd' l', Ext p p' → Rel K p' σ' σd' l' → Qd σd' l' → Q σ' p'.H)
end
def QE (X : Cx) (W : WX) (e : Expr) (w : WE) : Prop := PE X e (cE X.K W w)
def QT (X : Cx) (W : WX) (e : Expr) (w : WT) : Prop := PT X e (cT X.K W w)
def QW (X : Cx) (W : WX) (e : Expr) (w : WT) : Prop := PW X e (cT X.K W w)
def QA (X : Cx) (W : WX) (es : List Expr) (w : WA) : Prop := PA X es (cA X.K W w)
def QS (X : Cx) (W : WX) (st : Stmt) (w : WS) : Prop := PS X st (cS X.K W w)
def QSs (X : Cx) (W : WX) (st : List Stmt) (w : WS) : Prop := PSs X st (cS X.K W w)
def QG (X : Cx) (tg : Expr) (w : WG) : Prop := PG X tg (cG X.K w)
def QGs (X : Cx) (ts : List Expr) (w : WGs) : Prop := PGs X ts (cGs X.K w)

theorem PE.imp {X : Cx} {e : Expr} {t t' : TE} (h : PE X e t) (k : ∀ σ H Q, t' σ H Q → t σ H Q) : PE X e t' := ⟨fun pins s σ H Q I q => h.run pins s σ H Q I (k σ H Q q)⟩
theorem PT.imp {X : Cx} {e : Expr} {t t' : TT} (h : PT X e t) (k : ∀ σ H Q, t' σ H Q → t σ H Q) : PT X e t' := ⟨fun pins s σ H Q I q => h.run pins s σ H Q I (k σ H Q q)⟩
theorem PW.imp {X : Cx} {e : Expr} {t t' : TT} (h : PW X e t) (k : ∀ σ H Q, t' σ H Q → t σ H Q) : PW X e t' := ⟨fun wh pins s σ H Q I q => h.run wh pins s σ H Q I (k σ H Q q)⟩
theorem PA.imp {X : Cx} {e : List Expr} {t t' : TA} (h : PA X e t) (k : ∀ σ H Q, t' σ H Q → t σ H Q) : PA X e t' := ⟨fun pos pins s σ H Q I q => h.run pos pins s σ H Q I (k σ H Q q)⟩
theorem PS.imp {X : Cx} {e : Stmt} {t t' : TS} (h : PS X e t) (k : ∀ D σ H, t' D σ H → t D σ H) : PS X e t' := ⟨fun pins s σ H D I q => h.run pins s σ H D I (k D σ H q)⟩
theorem PSs.imp {X : Cx} {e : List Stmt} {t t' : TS} (h : PSs X e t) (k : ∀ D σ H, t' D σ H → t D σ H) : PSs X e t' := ⟨fun pins s σ H D I q => h.run pins s σ H D I (k D σ H q)⟩
theorem PG.imp {X : Cx} {e : Expr} {t t' : TG} (h : PG X e t) (k : ∀ v σ H Q, t' v σ H Q → t v σ H Q) : PG X e t' := ⟨fun pins s σ H v u Q I r q => h.run pins s σ H v u Q I r (k v σ H Q q)⟩
theorem PGs.imp {X : Cx} {e : List Expr} {t t' : TGs} (h : PGs X e t) (k : ∀ v σ H Q, t' v σ H Q → t v σ H Q) : PGs X e t' := ⟨fun pins s σ H v u Q I r q => h.run pins s σ H v u Q I r (k v σ H Q q)⟩

section
variable {K : PySem.W.Frag} {W : WX} {p p' : Pt} {σ σ' : St} {σd σd' : SS} {l l' : LS} {H : Hp}
theorem LinkE.mono {E : EK} (h : LinkE K W p σ σd E) (e : Ext p p') : LinkE K W p' σ σd E := fun ex l' cls d p2 e2 r x q => h ex l' cls d p2 (e.trans e2) r x q
theorem EndsR.mono {D : Ends} {Dd : ED} (h : EndsR K W p D Dd) (e : Ext p p') : EndsR K W p' D Dd :=
  ⟨fun p2 a b c f => h.nx p2 a b c (e.trans f), fun p2 a b c f => h.bk p2 a b c (e.trans f), fun p2 a b c f => h.ct p2 a b c (e.trans f), fun p2 a b c f => h.rt p2 a b c (e.trans f), fun p2 a b c d f g x => h.ex p2 a b c d f g (e.trans x)⟩
theorem cE_ok {w : WE} {Q : VK} {Qd : P → LS → Prop} {Ed : EK} (R : Rel K p σ σd l) (hw : w σd l Qd Ed) (lk : LinkE K W p σ σd Ed)
    (k : ∀ d l' v p', Ext p p' → Rel K p' σ σd l' → RP K p' d v → Qd d l' → Q v p'.H) : cE K W w σ p.H Q := ⟨p, σd, l, Qd, Ed, rfl, R, hw, k, lk⟩
theorem cT_ok {w : WT} {Q : Bool → Hp → Prop} {Qd : Bool → LS → Prop} {Ed : EK} (R : Rel K p σ σd l) (hw : w σd l Qd Ed) (lk : LinkE K W p σ σd Ed)
    (k : ∀ b l' p', Ext p p' → Rel K p' σ σd l' → Qd b l' → Q b p'.H) : cT K W w σ p.H Q := ⟨p, σd, l, Qd, Ed, rfl, R, hw, k, lk⟩
theorem cA_ok {w : WA} {Q : List V → Hp → Prop} {Qd : List P → LS → Prop} {Ed : EK} (R : Rel K p σ σd l) (hw : w σd l Qd Ed) (lk : LinkE K W p σ σd Ed)
    (k : ∀ ds l' vs p', Ext p p' → Rel K p' σ σd l' → RPs K p' ds vs → Qd ds l' → Q vs p'.H) : cA K W w σ p.H Q := ⟨p, σd, l, Qd, Ed, rfl, R, hw, k, lk⟩
theorem cS_ok {w : WS} {D : Ends} {Dd : ED} (R : Rel K p σ σd l) (hw : w Dd σd l) (k : EndsR K W p D Dd) : cS K W w D σ p.H := ⟨p, σd, l, Dd, rfl, R, hw, k⟩
theorem cG_ok {w : WG} {d : P} {v : V} {Q : St → Hp → Prop} {Qd : SS → LS → Prop} (R : Rel K p σ σd l) (r : RP K p d v) (hw : w d σd l Qd)
    (k : ∀ p' σ' σd' l', Ext p p' → Rel K p' σ' σd' l' → Qd σd' l' → Q σ' p'.H) : cG K w v σ p.H Q := ⟨p, σd, l, d, Qd, rfl, R, r, hw, k⟩
theorem Rel.ext (R : Rel K p σ σd l) (e : Ext p p') (w : WF p') (c : Cells K p' l') : Rel K p' σ σd l' := ⟨w, R.sl.mono e, c⟩
theorem Rel.set (R : Rel K p σ σd l) {i : Nat} {d : P} {v : V} (r : RP K p d v) : Rel K p (σ.set i (some v)) (σd.set i (some d)) l := ⟨R.wf, R.sl.set r, R.ce⟩
theorem EndsR.link {D : Ends} {Dd : ED} (h : EndsR K W p D Dd) : LinkE K W p σ σd (fun ex l => Dd.ex ex σd l) := fun ex l' cls d p' e r x q => h.ex p' σ σd l' ex cls d e r x q

/-! ### what stands in a sequence -/
def seqOf (l : LS) : P → Option (List D)
  | .d (.tup xs) => some xs
  | .d (.lst xs) => some xs
  | .d (.scr xs) => some xs
  | .d (.ktu xs) => some xs
  | .d (.tux xs) => some xs
  | .loc n => match l[n]? with
    | some (.lst xs) => some xs
    | some (.frz xs) => some xs
    | some (.own _ xs) => some xs
    | _ => none
  | _ => none
theorem seqOf_ok {x : P} {v : V} {xs : List D} (ce : Cells K p l) (r : RP K p x v) (h : seqOf l x = some xs) : ∃ a vs, v = .ref a ∧ (SqL K p.H a vs ∨ SqT K p.H a vs) ∧ RDs K p xs vs := by
  cases x with
  | d x =>
    cases x with
    | tup ys =>
      cases h
      cases r with
      | tup h1 h2 => exact ⟨_, _, rfl, .inr h1.sq, h2⟩
    | lst ys =>
      cases h
      cases r with
      | lst h1 h2 => exact ⟨_, _, rfl, .inl (LstAt.sq (K := K) h1), h2⟩
    | scr ys =>
      cases h
      cases r with
      | scr h1 h2 => exact ⟨_, _, rfl, .inl h1.sq, h2⟩
    | non => cases h
    | bl _ => cases h
    | int _ => cases h
    | str _ => cases h
    | ty _ => cases h
    | obj _ _ _ => cases h
    | dk _ _ => cases h
    | dt _ _ => cases h
    | ktu ys =>
      cases h
      cases r with
      | ktu h1 h2 => exact ⟨_, _, rfl, .inr (seqT_empty h1), h2⟩
    | tux ys =>
      cases h
      cases r with
      | tux _ h1 _ h2 => exact ⟨_, _, rfl, .inr (.inl (.inr ⟨_, h1⟩)), h2⟩
  | loc n =>
    obtain ⟨a, h1, rfl⟩ := r
    cases e : l[n]? with
    | none => simp [seqOf, e] at h
    | some c =>
      obtain ⟨b, h2, h3⟩ := ce.2 n c e
      rw [h1] at h2
      cases h2
      cases c with
      | lst ys =>
        simp [seqOf, e] at h
        subst h
        obtain ⟨_, vs, h4, h5⟩ := h3
        exact ⟨a, vs, rfl, .inl (.inl (.inl h4)), h5⟩
      | frz ys =>
        simp [seqOf, e] at h
        subst h
        obtain ⟨vs, h4, h5⟩ := h3
        exact ⟨a, vs, rfl, .inl (LstAt.sq (K := K) h4), h5⟩
      | dk _ => simp [seqOf, e] at h
      | dt _ => simp [seqOf, e] at h
      | fz _ => simp [seqOf, e] at h
      | own _ ys =>
        simp [seqOf, e] at h
        subst h
        obtain ⟨_, _, vs, h4, h5⟩ := h3
        exact ⟨a, vs, rfl, .inl (.inl (.inl h4)), h5⟩
      | dkc _ => simp [seqOf, e] at h
      | dtc _ => simp [seqOf, e] at h
      | lsc _ => simp [seqOf, e] at h
      | ins _ _ _ => simp [seqOf, e] at h
  | exc _ _ _ _ => cases h
/-- a list, not a tuple; its object itself stands in the heap -/
def lstOf (l : LS) : P → Option (List D)
  | .d (.lst xs) => some xs
  | .loc n => match l[n]? with
    | some (.lst xs) => some xs
    | some (.frz xs) => some xs
    | some (.own _ xs) => some xs
    | _ => none
  | _ => none
theorem lstOf_ok {x : P} {v : V} {xs : List D} (ce : Cells K p l) (r : RP K p x v) (h : lstOf l x = some xs) : ∃ a vs, v = .ref a ∧ p.H a = some (.lst vs) ∧ RDs K p xs vs := by
  cases x with
  | d x =>
    cases x with
    | lst ys =>
      cases h
      cases r with
      | lst h1 h2 => exact ⟨_, _, rfl, h1.2, h2⟩
    | tup _ => cases h
    | scr _ => cases h
    | non => cases h
    | bl _ => cases h
    | int _ => cases h
    | str _ => cases h
    | ty _ => cases h
    | obj _ _ _ => cases h
    | dk _ _ => cases h
    | dt _ _ => cases h
    | ktu _ => cases h
    | tux _ => cases h
  | loc n =>
    obtain ⟨a, h1, rfl⟩ := r
    cases e : l[n]? with
    | none => simp [lstOf, e] at h
    | some c =>
      obtain ⟨b, h2, h3⟩ := ce.2 n c e
      rw [h1] at h2
      cases h2
      cases c with
      | lst ys =>
        simp [lstOf, e] at h
        subst h
        obtain ⟨_, vs, h4, h5⟩ := h3
        exact ⟨a, vs, rfl, h4, h5⟩
      | frz ys =>
        simp [lstOf, e] at h
        subst h
        obtain ⟨vs, h4, h5⟩ := h3
        exact ⟨a, vs, rfl, h4.2, h5⟩
      | dk _ => simp [lstOf, e] at h
      | dt _ => simp [lstOf, e] at h
      | fz _ => simp [lstOf, e] at h
      | own _ ys =>
        simp [lstOf, e] at h
        subst h
        obtain ⟨_, _, vs, h4, h5⟩ := h3
        exact ⟨a, vs, rfl, h4, h5⟩
      | dkc _ => simp [lstOf, e] at h
      | dtc _ => simp [lstOf, e] at h
      | lsc _ => simp [lstOf, e] at h
      | ins _ _ _ => simp [lstOf, e] at h
  | exc _ _ _ _ => cases h
theorem lst_seq {x : P} {xs : List D} (h : lstOf l x = some xs) : seqOf l x = some xs := by
  cases x with
  | d x => cases x <;> first | (cases h; rfl) | cases h
  | loc n => exact h
  | exc _ _ _ _ => cases h
end

/-! ### operators by values -/
abbrev OD2 := P → P → LS → (P → LS → Prop) → Prop
abbrev OD1 := P → LS → (P → LS → Prop) → Prop
abbrev ODn := List P → LS → (P → LS → Prop) → Prop
abbrev ODm := P → List P → LS → (P → LS → Prop) → Prop
section
variable (K : PySem.W.Frag)
/-- what is wanted behind an operation at p -/
def After (p : Pt) (Qd : P → LS → Prop) (Q : VK) : Prop := ∀ d l' v p', Ext p p' → WF p' → Cells K p' l' → RP K p' d v → Qd d l' → Q v p'.H
def RefOp (r : R2) (rd : OD2) : Prop := ∀ (p : Pt) (l : LS) (x y : P) (vx vy : V) (Qd : P → LS → Prop) (Q : VK), WF p → Cells K p l → RP K p x vx → RP K p y vy → rd x y l Qd → After K p Qd Q → r vx vy p.H Q
def RefUn (r : V → Hp → VK → Prop) (rd : OD1) : Prop := ∀ (p : Pt) (l : LS) (x : P) (vx : V) (Qd : P → LS → Prop) (Q : VK), WF p → Cells K p l → RP K p x vx → rd x l Qd → After K p Qd Q → r vx p.H Q
def RefCall (r : List V → Hp → VK → Prop) (rd : ODn) : Prop := ∀ (p : Pt) (l : LS) (xs : List P) (vs : List V) (Qd : P → LS → Prop) (Q : VK), WF p → Cells K p l → RPs K p xs vs → rd xs l Qd → After K p Qd Q → r vs p.H Q
end
theorem After.same {K : PySem.W.Frag} {p : Pt} {Qd : P → LS → Prop} {Q : VK} (k : After K p Qd Q) (w : WF p) {l : LS} (c : Cells K p l) {d : P} {v : V} (r : RP K p d v) (q : Qd d l) : Q v p.H := k d l v p (Ext.refl p) w c r q

section
variable {X : Cx} {W : WX} {a b c e o : Expr} {es : List Expr} {wa wb wc we : WE} {wt wt' : WT} {ws : WA} {pos : Pos}
/-! ### names, constants -/
def wVar (i : Nat) (σ : SS) (l : LS) (Q : P → LS → Prop) (_ : EK) : Prop := match σ[i]? with
  | some (some d) => Q d l
  | _ => False
def wC (d : D) (_ : SS) (l : LS) (Q : P → LS → Prop) (_ : EK) : Prop := Q (.d d) l
theorem qe_var (i : Nat) {x : Str} (hN : X.N[i]? = some x := by rfl) (hv : Vis X.env.scope x := by first | exact Or.inl rfl | exact Or.inr (Or.inl rfl) | exact Or.inr (Or.inr rfl)) (hd : (x == ("__debug__" : Str)) = false := by decide)
    (hcd : (x == ("__classdict__" : Str)) = false := by decide) : QE X W (.Name x pos) (wVar i) := PE.imp (pe_var hN hv hd hcd) fun σ H Q ⟨p, σd, l, Qd, Ed, hH, R, hw, k, _⟩ => by
  subst hH
  unfold wVar at hw
  split at hw
  · rename_i d hd
    obtain ⟨v, h1, h2⟩ := R.sl.2 i d hd
    exact ⟨v, h1, k d l v p (Ext.refl p) R h2 hw⟩
  · exact hw.elim
theorem qe_const {v : V} {d : D} (h : PE X e (tC v)) (r : ∀ p, RD X.K p d v) : QE X W e (wC d) := PE.imp h fun σ H Q ⟨p, σd, l, Qd, Ed, hH, R, hw, k, _⟩ => by
  subst hH
  exact k (.d d) l v p (Ext.refl p) R (r p) hw
theorem qe_int {i j} : QE X W (.Constant (.int i) j pos) (wC (.int i)) := qe_const pe_int fun _ => .int i
theorem qe_bl {i j} : QE X W (.Constant (.bool i) j pos) (wC (.bl i)) := qe_const pe_bl fun _ => .bl i
theorem qe_non {j} : QE X W (.Constant .none j pos) (wC .non) := qe_const pe_non fun _ => .non
theorem qe_str {i j} : QE X W (.Constant (.str i) j pos) (wC (.str i)) := qe_const pe_str fun _ => .str i
/-- a constant of the module -/
theorem qe_glob {x : Str} {v : V} {d : D} (hg : Gl X x) (hm : ∃ u, X.mg x = some u ∧ RelV v u) (r : ∀ p, RD X.K p d v) (hd : (x == ("__debug__" : Str)) = false := by decide) : QE X W (.Name x pos) (wC d) := by
  obtain ⟨u, h1, h2⟩ := hm
  exact qe_const (pe_glob hg h1 h2 hd) r
/-- a built-in type as a value -/
theorem qe_type {x : Str} {n : String} (hg : Gl X x) (hm : X.mg x = none) (hv : bootBuiltins x = some (.type n)) (hn : x ≠ "__name__" := by decide) (hd : (x == ("__debug__" : Str)) = false := by decide) : QE X W (.Name x pos) (wC (.ty n)) :=
  qe_const (pe_bltn (v := .ty n) hg hm hv rfl hn hd) fun _ => .ty n

/-! ### operators -/
def kOp2 (rd : OD2) (x : P) (Q : P → LS → Prop) (y : P) (l : LS) : Prop := rd x y l Q
def kOp1 (rd : OD2) (wb : WE) (σ : SS) (Q : P → LS → Prop) (E : EK) (x : P) (l : LS) : Prop := wb σ l (kOp2 rd x Q) E
def wOp (rd : OD2) (wa wb : WE) (σ : SS) (l : LS) (Q : P → LS → Prop) (E : EK) : Prop := wa σ l (kOp1 rd wb σ Q E) E
def kUn (rd : OD1) (Q : P → LS → Prop) (x : P) (l : LS) : Prop := rd x l Q
def wUn (rd : OD1) (wa : WE) (σ : SS) (l : LS) (Q : P → LS → Prop) (E : EK) : Prop := wa σ l (kUn rd Q) E
theorem op_ok {r : R2} {rd : OD2} (hr : RefOp X.K r rd) {σ : St} {H : Hp} {Q : VK} (h : cE X.K W (wOp rd wa wb) σ H Q) : tOp r (cE X.K W wa) (cE X.K W wb) σ H Q := by
  obtain ⟨p, σd, l, Qd, Ed, hH, R, hw, k, lk⟩ := h
  subst hH
  exact cE_ok R hw lk fun x l1 vx p1 e1 R1 r1 q1 => cE_ok R1 q1 (lk.mono e1) fun y l2 vy p2 e2 R2 r2 q2 =>
    hr p2 l2 x y vx vy _ _ R2.wf R2.ce (r1.mono e2) r2 q2 fun d l' v p' e' w' c' r' q' => k d l' v p' ((e1.trans e2).trans e') (R2.ext e' w' c') r' q'
theorem qe_op {op : Operator} {r : R2} {rd : OD2} (ho : OpR X (binaryOp op) r) (hr : RefOp X.K r rd) (ha : QE X W a wa) (hb : QE X W b wb) : QE X W (.BinOp a op b pos) (wOp rd wa wb) :=
  PE.imp (pe_op ho ha hb) fun _ _ _ h => op_ok hr h
theorem qe_cmp {op : CmpOp} {r : R2} {rd : OD2} (ho : OpR X (compareOp op) r) (hr : RefOp X.K r rd) (ha : QE X W a wa) (hb : QE X W b wb) (hm : behindInMarks op b = false) : QE X W (.Compare a [op] [b] pos) (wOp rd wa wb) :=
  PE.imp (pe_cmpR ho ha hb hm) fun _ _ _ h => op_ok hr h
theorem qe_un {op : UnaryOp} {r : V → Hp → VK → Prop} {rd : OD1} (ho : UnR X (unaryOp op) r) (hr : RefUn X.K r rd) (ha : QE X W a wa) : QE X W (.UnaryOp op a pos) (wUn rd wa) :=
  PE.imp (pe_un ho ha) fun σ H Q h => by
    obtain ⟨p, σd, l, Qd, Ed, hH, R, hw, k, lk⟩ := h
    subst hH
    exact cE_ok R hw lk fun x l1 vx p1 e1 R1 r1 q1 => hr p1 l1 x vx _ _ R1.wf R1.ce r1 q1 fun d l' v p' e' w' c' r' q' => k d l' v p' (e1.trans e') (R1.ext e' w' c') r' q'
/-- a test that gives a bool -/
def isB (x : P) (l : LS) (Q : Bool → LS → Prop) : Prop := match x with
  | .d (.bl b) => Q b l
  | _ => False
theorem isB_ok {K : PySem.W.Frag} {p : Pt} {l : LS} {x : P} {v : V} {Q : Bool → LS → Prop} (r : RP K p x v) (h : isB x l Q) : ∃ b, v = .bl b ∧ Q b l := by
  cases x with
  | d x =>
    cases x with
    | bl b => cases r; exact ⟨b, rfl, h⟩
    | _ => cases h
  | loc _ => cases h
  | exc _ _ _ _ => cases h
def kB (Q : Bool → LS → Prop) (x : P) (l : LS) : Prop := isB x l Q
def wB (we : WE) (σ : SS) (l : LS) (Q : Bool → LS → Prop) (E : EK) : Prop := we σ l (kB Q) E
theorem qt_cmp {op : CmpOp} {r : R2} {rd : OD2} (ho : OpR X (compareOp op) r) (hr : RefOp X.K r rd) (ha : QE X W a wa) (hb : QE X W b wb) (hm : behindInMarks op b = false) : QT X W (.Compare a [op] [b] pos) (wB (wOp rd wa wb)) :=
  PT.imp (pt_cmpR ho ha hb hm) fun σ H Q h => by
    obtain ⟨p, σd, l, Qd, Ed, hH, R, hw, k, lk⟩ := h
    subst hH
    exact op_ok (X := X) (W := W) hr (cE_ok R hw lk fun x l1 v p1 e1 R1 r1 q1 => by
      obtain ⟨b, rfl, q⟩ := isB_ok r1 q1
      exact ⟨b, rfl, k b l1 p1 e1 R1 q⟩)
theorem qt_val (h : QE X W e we) (he : ∀ whole, isTrue e X.env whole = (do let v ← whole; standAt e.pos; holding [v] (truthy v)) := by intro _; rfl) : QT X W e (wB we) :=
  PT.imp (pt_val h he) fun σ H Q h => by
    obtain ⟨p, σd, l, Qd, Ed, hH, R, hw, k, lk⟩ := h
    subst hH
    exact cE_ok R hw lk fun x l1 v p1 e1 R1 r1 q1 => by
      obtain ⟨b, rfl, q⟩ := isB_ok r1 q1
      exact ⟨b, rfl, k b l1 p1 e1 R1 q⟩
/-- truth of a value -/
def truD (x : P) (l : LS) (Q : Bool → LS → Prop) : Prop := match seqOf l x with
  | some xs => Q (!xs.isEmpty) l
  | none => match x with
    | .d .non => Q false l
    | .d (.bl b) => Q b l
    | .d (.int i) => Q (i != 0) l
    | .d (.str y) => y.length ≤ sizeLine ∧ Q ((y.length : Int) != 0) l
    | _ => False
theorem RDs.emp {K : PySem.W.Frag} {p : Pt} : ∀ {xs : List D} {vs : List V}, RDs K p xs vs → xs.isEmpty = vs.isEmpty
  | _, _, .nil => rfl
  | _, _, .cons _ _ => rfl
def kTru (Q : Bool → LS → Prop) (x : P) (l : LS) : Prop := truD x l Q
def wTru (we : WE) (σ : SS) (l : LS) (Q : Bool → LS → Prop) (E : EK) : Prop := we σ l (kTru Q) E
theorem qt_truth (h : QE X W e we) (he : ∀ whole, isTrue e X.env whole = (do let v ← whole; standAt e.pos; holding [v] (truthy v)) := by intro _; rfl) : QT X W e (wTru we) :=
  PT.imp (pt_truth h he) fun σ H Q h => by
    obtain ⟨p, σd, l, Qd, Ed, hH, R, hw, k, lk⟩ := h
    subst hH
    exact cE_ok R hw lk fun x l1 v p1 e1 R1 r1 q1 => by
      unfold kTru truD at q1
      split at q1
      · rename_i xs hx
        obtain ⟨a, vs, rfl, hs, hr⟩ := seqOf_ok R1.ce r1 hx
        refine ⟨_, ?_, k _ _ _ e1 R1 q1⟩
        rw [hr.emp]
        rcases hs with hs | hs
        · exact .inl ⟨_, hs, rfl⟩
        · exact .inr (.inl ⟨_, hs, rfl⟩)
      · split at q1
        · cases r1; exact ⟨_, rfl, k _ _ _ e1 R1 q1⟩
        · cases r1; exact ⟨_, rfl, k _ _ _ e1 R1 q1⟩
        · cases r1; exact ⟨_, rfl, k _ _ _ e1 R1 q1⟩
        · cases r1; exact ⟨_, ⟨q1.1, rfl⟩, k _ _ _ e1 R1 q1.2⟩
        · exact q1.elim
def kNot (Q : Bool → LS → Prop) (b : Bool) (l : LS) : Prop := Q (!b) l
def wNot (w : WT) (σ : SS) (l : LS) (Q : Bool → LS → Prop) (E : EK) : Prop := w σ l (kNot Q) E
def kAnd (u : WT) (σ : SS) (Q : Bool → LS → Prop) (E : EK) (b : Bool) (l : LS) : Prop := if b = true then u σ l Q E else Q false l
def wAnd (w u : WT) (σ : SS) (l : LS) (Q : Bool → LS → Prop) (E : EK) : Prop := w σ l (kAnd u σ Q E) E
def kOr (u : WT) (σ : SS) (Q : Bool → LS → Prop) (E : EK) (b : Bool) (l : LS) : Prop := if b = true then Q true l else u σ l Q E
def wOr (w u : WT) (σ : SS) (l : LS) (Q : Bool → LS → Prop) (E : EK) : Prop := w σ l (kOr u σ Q E) E
theorem qt_not (ha : QT X W a wt) : QT X W (.UnaryOp .Not a pos) (wNot wt) := PT.imp (pt_not ha) fun σ H Q h => by
  obtain ⟨p, σd, l, Qd, Ed, hH, R, hw, k, lk⟩ := h
  subst hH
  exact cT_ok R hw lk fun b l1 p1 e1 R1 q1 => k _ l1 p1 e1 R1 q1
theorem QW.qt (h : QW X W e wt) : QT X W e wt := PW.pt h
theorem qw_and1 (ha : QT X W a wt) : QW X W (.BoolOp .And [a] pos) wt := pw_and1 ha
theorem qw_or1 (ha : QT X W a wt) : QW X W (.BoolOp .Or [a] pos) wt := pw_or1 ha
theorem qw_and (ha : QT X W a wt) (hb : QW X W (.BoolOp .And (b :: es) pos) wt') : QW X W (.BoolOp .And (a :: b :: es) pos) (wAnd wt wt') := PW.imp (pw_and ha hb) fun σ H Q h => by
  obtain ⟨p, σd, l, Qd, Ed, hH, R, hw, k, lk⟩ := h
  subst hH
  refine cT_ok R hw lk fun b l1 p1 e1 R1 q1 => ?_
  cases b with
  | true => exact iteT (cT_ok R1 q1 (lk.mono e1) fun b l2 p2 e2 R2 q2 => k _ l2 p2 (e1.trans e2) R2 q2)
  | false => exact iteF (k _ l1 p1 e1 R1 q1)
theorem qw_or (ha : QT X W a wt) (hb : QW X W (.BoolOp .Or (b :: es) pos) wt') : QW X W (.BoolOp .Or (a :: b :: es) pos) (wOr wt wt') := PW.imp (pw_or ha hb) fun σ H Q h => by
  obtain ⟨p, σd, l, Qd, Ed, hH, R, hw, k, lk⟩ := h
  subst hH
  refine cT_ok R hw lk fun b l1 p1 e1 R1 q1 => ?_
  cases b with
  | true => exact iteT (k _ l1 p1 e1 R1 q1)
  | false => exact iteF (cT_ok R1 q1 (lk.mono e1) fun b l2 p2 e2 R2 q2 => k _ l2 p2 (e1.trans e2) R2 q2)
/-- and, or as values: all but the last give bools -/
def kAndV (wb : WE) (σ : SS) (Q : P → LS → Prop) (E : EK) (b : Bool) (l : LS) : Prop := if b = true then wb σ l Q E else Q (.d (.bl false)) l
def wAndV (wa wb : WE) (σ : SS) (l : LS) (Q : P → LS → Prop) (E : EK) : Prop := wa σ l (kB (kAndV wb σ Q E)) E
def kOrV (wb : WE) (σ : SS) (Q : P → LS → Prop) (E : EK) (b : Bool) (l : LS) : Prop := if b = true then Q (.d (.bl true)) l else wb σ l Q E
def wOrV (wa wb : WE) (σ : SS) (l : LS) (Q : P → LS → Prop) (E : EK) : Prop := wa σ l (kB (kOrV wb σ Q E)) E
def kNotV (Q : P → LS → Prop) (b : Bool) (l : LS) : Prop := Q (.d (.bl (!b))) l
def wNotV (wa : WE) (σ : SS) (l : LS) (Q : P → LS → Prop) (E : EK) : Prop := wa σ l (kB (kNotV Q)) E
theorem qe_one {op : BoolOp} (ha : QE X W a wa) : QE X W (.BoolOp op [a] pos) wa := pe_one ha
theorem qe_and (ha : QE X W a wa) (hb : QE X W (.BoolOp .And (b :: es) pos) wb) : QE X W (.BoolOp .And (a :: b :: es) pos) (wAndV wa wb) := PE.imp (pe_and ha hb) fun σ H Q h => by
  obtain ⟨p, σd, l, Qd, Ed, hH, R, hw, k, lk⟩ := h
  subst hH
  refine cE_ok R hw lk fun x l1 v p1 e1 R1 r1 q1 => ?_
  obtain ⟨b, rfl, q⟩ := isB_ok r1 q1
  refine ⟨b, rfl, ?_⟩
  cases b with
  | true => exact iteT (cE_ok R1 q (lk.mono e1) fun y l2 v2 p2 e2 R2 r2 q2 => k _ l2 v2 p2 (e1.trans e2) R2 r2 q2)
  | false => exact iteF (k (.d (.bl _)) l1 _ p1 e1 R1 (RD.bl _) q)
theorem qe_or (ha : QE X W a wa) (hb : QE X W (.BoolOp .Or (b :: es) pos) wb) : QE X W (.BoolOp .Or (a :: b :: es) pos) (wOrV wa wb) := PE.imp (pe_or ha hb) fun σ H Q h => by
  obtain ⟨p, σd, l, Qd, Ed, hH, R, hw, k, lk⟩ := h
  subst hH
  refine cE_ok R hw lk fun x l1 v p1 e1 R1 r1 q1 => ?_
  obtain ⟨b, rfl, q⟩ := isB_ok r1 q1
  refine ⟨b, rfl, ?_⟩
  cases b with
  | true => exact iteT (k (.d (.bl _)) l1 _ p1 e1 R1 (RD.bl _) q)
  | false => exact iteF (cE_ok R1 q (lk.mono e1) fun y l2 v2 p2 e2 R2 r2 q2 => k _ l2 v2 p2 (e1.trans e2) R2 r2 q2)
theorem qe_not (ha : QE X W a wa) : QE X W (.UnaryOp .Not a pos) (wNotV wa) := PE.imp (pe_not ha) fun σ H Q h => by
  obtain ⟨p, σd, l, Qd, Ed, hH, R, hw, k, lk⟩ := h
  subst hH
  refine cE_ok R hw lk fun x l1 v p1 e1 R1 r1 q1 => ?_
  obtain ⟨b, rfl, q⟩ := isB_ok r1 q1
  exact ⟨b, rfl, k (.d (.bl _)) l1 _ p1 e1 R1 (RD.bl _) q⟩
def kIfE (wa wb : WE) (σ : SS) (Q : P → LS → Prop) (E : EK) (b : Bool) (l : LS) : Prop := if b = true then wa σ l Q E else wb σ l Q E
def wIfE (wt : WT) (wa wb : WE) (σ : SS) (l : LS) (Q : P → LS → Prop) (E : EK) : Prop := wt σ l (kIfE wa wb σ Q E) E
theorem qe_ifE (hc : QT X W c wt) (ha : QE X W a wa) (hb : QE X W b wb) : QE X W (.IfExp c a b pos) (wIfE wt wa wb) := PE.imp (pe_ifExp hc ha hb) fun σ H Q h => by
  obtain ⟨p, σd, l, Qd, Ed, hH, R, hw, k, lk⟩ := h
  subst hH
  refine cT_ok R hw lk fun b l1 p1 e1 R1 q1 => ?_
  cases b with
  | true => exact iteT (cE_ok R1 q1 (lk.mono e1) fun y l2 v2 p2 e2 R2 r2 q2 => k _ l2 v2 p2 (e1.trans e2) R2 r2 q2)
  | false => exact iteF (cE_ok R1 q1 (lk.mono e1) fun y l2 v2 p2 e2 R2 r2 q2 => k _ l2 v2 p2 (e1.trans e2) R2 r2 q2)
/-- a < b < c -/
def kCh3 (rd' : OD2) (wc : WE) (σ : SS) (y : P) (Q : P → LS → Prop) (E : EK) (b : Bool) (l : LS) : Prop := if b = true then wc σ l (kOp2 rd' y Q) E else Q (.d (.bl false)) l
def kCh2 (rd rd' : OD2) (wc : WE) (σ : SS) (x : P) (Q : P → LS → Prop) (E : EK) (y : P) (l : LS) : Prop := rd x y l (kB (kCh3 rd' wc σ y Q E))
def kCh1 (rd rd' : OD2) (wb wc : WE) (σ : SS) (Q : P → LS → Prop) (E : EK) (x : P) (l : LS) : Prop := wb σ l (kCh2 rd rd' wc σ x Q E) E
def wChain (rd rd' : OD2) (wa wb wc : WE) (σ : SS) (l : LS) (Q : P → LS → Prop) (E : EK) : Prop := wa σ l (kCh1 rd rd' wb wc σ Q E) E
theorem chain_ok {r r' : R2} {rd rd' : OD2} (hr : RefOp X.K r rd) (hr' : RefOp X.K r' rd') {σ : St} {H : Hp} {Q : VK} (h : cE X.K W (wChain rd rd' wa wb wc) σ H Q) : tChain r r' (cE X.K W wa) (cE X.K W wb) (cE X.K W wc) σ H Q := by
  obtain ⟨p, σd, l, Qd, Ed, hH, R, hw, k, lk⟩ := h
  subst hH
  refine cE_ok R hw lk fun x l1 vx p1 e1 R1 r1 q1 => cE_ok R1 q1 (lk.mono e1) fun y l2 vy p2 e2 R2 r2 q2 =>
    hr p2 l2 x y vx vy _ _ R2.wf R2.ce (r1.mono e2) r2 q2 fun d l3 v p3 e3 w3 c3 r3 q3 => ?_
  obtain ⟨b, rfl, q⟩ := isB_ok r3 q3
  have R3 := R2.ext e3 w3 c3
  refine ⟨b, rfl, ?_⟩
  cases b with
  | true => exact iteT (cE_ok R3 q (lk.mono ((e1.trans e2).trans e3)) fun z l4 vz p4 e4 R4 r4 q4 =>
      hr' p4 l4 y z vy vz _ _ R4.wf R4.ce (r2.mono (e3.trans e4)) r4 q4 fun d l5 v p5 e5 w5 c5 r5 q5 => k d l5 v p5 ((((e1.trans e2).trans e3).trans e4).trans e5) (R4.ext e5 w5 c5) r5 q5)
  | false => exact iteF (k (.d (.bl _)) l3 _ p3 ((e1.trans e2).trans e3) R3 (RD.bl _) q)
theorem qe_chain {op op' : CmpOp} {r r' : R2} {rd rd' : OD2} (ho : OpR X (compareOp op) r) (hr : RefOp X.K r rd) (ho' : OpR X (compareOp op') r') (hr' : RefOp X.K r' rd') (ha : QE X W a wa) (hb : QE X W b wb) (hc : QE X W c wc)
    (hm : lastMarks [op, op'] [b, c] = false := by with_unfolding_all rfl) : QE X W (.Compare a [op, op'] [b, c] pos) (wChain rd rd' wa wb wc) := PE.imp (pe_chain ho ho' ha hb hc hm) fun _ _ _ h => chain_ok hr hr' h
theorem qt_chain {op op' : CmpOp} {r r' : R2} {rd rd' : OD2} (ho : OpR X (compareOp op) r) (hr : RefOp X.K r rd) (ho' : OpR X (compareOp op') r') (hr' : RefOp X.K r' rd') (ha : QE X W a wa) (hb : QE X W b wb) (hc : QE X W c wc)
    (hm : lastMarks [op, op'] [b, c] = false := by with_unfolding_all rfl) : QT X W (.Compare a [op, op'] [b, c] pos) (wB (wChain rd rd' wa wb wc)) := PT.imp (pt_chain ho ho' ha hb hc hm) fun σ H Q h => by
  obtain ⟨p, σd, l, Qd, Ed, hH, R, hw, k, lk⟩ := h
  subst hH
  exact chain_ok (X := X) (W := W) hr hr' (cE_ok R hw lk fun x l1 v p1 e1 R1 r1 q1 => by
    obtain ⟨b, rfl, q⟩ := isB_ok r1 q1
    exact ⟨b, rfl, k b l1 p1 e1 R1 q⟩)

/-! ### arguments -/
def wNil (_ : SS) (l : LS) (Q : List P → LS → Prop) (_ : EK) : Prop := Q [] l
def kC2 (x : P) (Q : List P → LS → Prop) (xs : List P) (l : LS) : Prop := Q (x :: xs) l
def kC1 (ws : WA) (σ : SS) (Q : List P → LS → Prop) (E : EK) (x : P) (l : LS) : Prop := ws σ l (kC2 x Q) E
def wCons (we : WE) (ws : WA) (σ : SS) (l : LS) (Q : List P → LS → Prop) (E : EK) : Prop := we σ l (kC1 ws σ Q E) E
theorem qa_nil : QA X W [] wNil := PA.imp pa_nil fun σ H Q ⟨p, σd, l, Qd, Ed, hH, R, hw, k, lk⟩ => by
  subst hH
  exact k [] l [] p (Ext.refl p) R .nil hw
theorem qa_cons (ha : QE X W e we) (hr : QA X W es ws) (hs : starEach (e :: es) X.env = (false, eval e X.env) :: starEach es X.env := by rfl) : QA X W (e :: es) (wCons we ws) :=
  PA.imp (pa_cons ha hr hs) fun σ H Q ⟨p, σd, l, Qd, Ed, hH, R, hw, k, lk⟩ => by
    subst hH
    exact cE_ok R hw lk fun x l1 vx p1 e1 R1 r1 q1 => cA_ok R1 q1 (lk.mono e1) fun xs l2 vs p2 e2 R2 r2 q2 => k _ l2 _ p2 (e1.trans e2) R2 (.cons (r1.mono e2) r2) q2
/-- a call of a built-in by name -/
def kCB (rd : ODn) (Q : P → LS → Prop) (xs : List P) (l : LS) : Prop := rd xs l Q
def wCB (rd : ODn) (ws : WA) (σ : SS) (l : LS) (Q : P → LS → Prop) (E : EK) : Prop := ws σ l (kCB rd Q) E
theorem cb_ok {r : List V → Hp → VK → Prop} {rd : ODn} (hr : RefCall X.K r rd) {σ : St} {H : Hp} {Q : VK} (h : cE X.K W (wCB rd ws) σ H Q) : tCB r (cA X.K W ws) σ H Q := by
  obtain ⟨p, σd, l, Qd, Ed, hH, R, hw, k, lk⟩ := h
  subst hH
  exact cA_ok R hw lk fun xs l1 vs p1 e1 R1 r1 q1 => hr p1 l1 xs vs _ _ R1.wf R1.ce r1 q1 fun d l' v p' e' w' c' r' q' => k d l' v p' (e1.trans e') (R1.ext e' w' c') r' q'
theorem qe_callB {x : Str} {q : Pos} {id : String} {r : List V → Hp → VK → Prop} {rd : ODn} (hc : CallR X (.builtin id) r) (hr : RefCall X.K r rd) (hg : Gl X x) (hm : X.mg x = none) (hv : bootBuiltins x = some (.builtin id)) (ha : QA X W (e :: es) ws)
    (hn : x ≠ "__name__" := by decide) (hdb : (x == ("__debug__" : Str)) = false := by decide) (he : starEach (e :: es) X.env = (false, eval e X.env) :: starEach es X.env := by rfl) (hpl : (backTo pos (starEach es X.env)).any (·.1) = false := by rfl) :
    QE X W (.Call (.Name x q) (e :: es) [] pos) (wCB rd ws) := PE.imp (pe_callB hc hg hm hv ha hn hdb he hpl) fun _ _ _ h => cb_ok hr h
theorem qe_callTy {x : Str} {q : Pos} {T : String} {r : List V → Hp → VK → Prop} {rd : ODn} (hc : CallR X (.type T) r) (hr : RefCall X.K r rd) (hg : Gl X x) (hm : X.mg x = none) (hv : bootBuiltins x = some (.type T)) (ha : QA X W (e :: es) ws)
    (hn : x ≠ "__name__" := by decide) (hdb : (x == ("__debug__" : Str)) = false := by decide) (he : starEach (e :: es) X.env = (false, eval e X.env) :: starEach es X.env := by rfl) (hpl : (backTo pos (starEach es X.env)).any (·.1) = false := by rfl) :
    QE X W (.Call (.Name x q) (e :: es) [] pos) (wCB rd ws) := PE.imp (pe_callTy hc hg hm hv ha hn hdb he hpl) fun _ _ _ h => cb_ok hr h
end

/-! ### statements -/
section
variable {X : Cx} {W : WX} {st : Stmt} {rest : List Stmt} {w u : WS} {e : Expr} {we : WE} {wt : WT} {pos : Pos}
def wNext (D : ED) (σ : SS) (l : LS) : Prop := D.nx σ l
def wSeq (w u : WS) (D : ED) (σ : SS) (l : LS) : Prop := w { D with nx := u D } σ l
def exK (D : ED) (σ : SS) (ex : Ex) (l : LS) : Prop := D.ex ex σ l
theorem EndsR.thn {K : PySem.W.Frag} {p : Pt} {D : Ends} {Dd : ED} (k : EndsR K W p D Dd) : EndsR K W p { D with nx := cS K W u D } { Dd with nx := u Dd } :=
  ⟨fun p' σ' σd' l' e R q => cS_ok R q (k.mono e), k.bk, k.ct, k.rt, k.ex⟩
theorem qss_nil : QSs X W [] wNext := PSs.imp pss_nil fun D σ H ⟨p, σd, l, Dd, hH, R, hw, k⟩ => by
  subst hH
  exact k.nx p σ σd l (Ext.refl p) R hw
theorem qss_cons (h1 : QS X W st w) (h2 : QSs X W rest u) : QSs X W (st :: rest) (wSeq w u) := PSs.imp (pss_cons h1 h2) fun D σ H ⟨p, σd, l, Dd, hH, R, hw, k⟩ => by
  subst hH
  exact cS_ok R hw k.thn
theorem qss_one (h1 : QS X W st w) : QSs X W [st] w := pss_one h1
theorem qs_pass : QS X W (.Pass pos) wNext := PS.imp ps_pass fun D σ H ⟨p, σd, l, Dd, hH, R, hw, k⟩ => by
  subst hH
  exact k.nx p σ σd l (Ext.refl p) R hw
def wBreak (D : ED) (σ : SS) (l : LS) : Prop := D.bk σ l
def wCont (D : ED) (σ : SS) (l : LS) : Prop := D.ct σ l
theorem qs_break : QS X W (.Break pos) wBreak := PS.imp ps_break fun D σ H ⟨p, σd, l, Dd, hH, R, hw, k⟩ => by
  subst hH
  exact k.bk p σ σd l (Ext.refl p) R hw
theorem qs_continue : QS X W (.Continue pos) wCont := PS.imp ps_continue fun D σ H ⟨p, σd, l, Dd, hH, R, hw, k⟩ => by
  subst hH
  exact k.ct p σ σd l (Ext.refl p) R hw
theorem qs_doc {x j pos'} : QS X W (.Expr (.Constant (.str x) j pos) pos') wNext := PS.imp ps_doc fun D σ H ⟨p, σd, l, Dd, hH, R, hw, k⟩ => by
  subst hH
  exact k.nx p σ σd l (Ext.refl p) R hw
def kDrop (D : ED) (σ : SS) (_ : P) (l : LS) : Prop := D.nx σ l
def wDrop (we : WE) (D : ED) (σ : SS) (l : LS) : Prop := we σ l (kDrop D σ) (exK D σ)
theorem qs_expr (he : QE X W e we) (hs : swapsWith e none pos.line X.env = pure false := by rfl) : QS X W (.Expr e pos) (wDrop we) := PS.imp (ps_expr he hs) fun D σ H ⟨p, σd, l, Dd, hH, R, hw, k⟩ => by
  subst hH
  exact cE_ok R hw k.link fun x l1 v p1 e1 R1 r1 q1 => k.nx p1 σ σd l1 e1 R1 q1
def wRet (we : WE) (D : ED) (σ : SS) (l : LS) : Prop := we σ l D.rt (exK D σ)
theorem qs_ret (he : QE X W e we) : QS X W (.Return (some e) pos) (wRet we) := PS.imp (ps_ret he) fun D σ H ⟨p, σd, l, Dd, hH, R, hw, k⟩ => by
  subst hH
  exact cE_ok R hw k.link fun x l1 v p1 e1 R1 r1 q1 => k.rt p1 x v l1 e1 R1.wf R1.ce r1 q1
def wRetN (D : ED) (_ : SS) (l : LS) : Prop := D.rt (.d .non) l
theorem qs_retN : QS X W (.Return none pos) wRetN := PS.imp ps_retN fun D σ H ⟨p, σd, l, Dd, hH, R, hw, k⟩ => by
  subst hH
  exact k.rt p (.d .non) _ l (Ext.refl p) R.wf R.ce RD.non hw
def kIf (w u : WS) (D : ED) (σ : SS) (b : Bool) (l : LS) : Prop := if b = true then w D σ l else u D σ l
def wIf (wt : WT) (w u : WS) (D : ED) (σ : SS) (l : LS) : Prop := wt σ l (kIf w u D σ) (exK D σ)
theorem qs_if {c : Expr} {a b : List Stmt} (hc : QT X W c wt) (ha : QSs X W a w) (hb : QSs X W b u) : QS X W (.If c a b pos) (wIf wt w u) := PS.imp (ps_if hc ha hb) fun D σ H ⟨p, σd, l, Dd, hH, R, hw, k⟩ => by
  subst hH
  refine cT_ok R hw k.link fun b l1 p1 e1 R1 q1 => ?_
  cases b with
  | true => exact iteT (cS_ok R1 q1 (k.mono e1))
  | false => exact iteF (cS_ok R1 q1 (k.mono e1))
/-! ### targets -/
def gN (i : Nat) (d : P) (σ : SS) (l : LS) (Q : SS → LS → Prop) : Prop := Q (σ.set i (some d)) l
theorem qg_name {i : Nat} {x : Str} (hN : X.N.Nodup) (hi : X.N[i]? = some x) (hx : Loc X.env.scope x) (hf : X.fn x = true ∨ X.env.scope.names.lookup x = some .local := by first | exact .inl rfl | exact .inr rfl | assumption) : QG X (.Name x pos) (gN i) :=
  PG.imp (pg_name hN hi hx hf) fun v σ H Q ⟨p, σd, l, d, Qd, hH, R, r, hw, k⟩ => by
    subst hH
    exact k p _ _ l (Ext.refl p) (R.set r) hw
def gE (ds : List D) (σ : SS) (l : LS) (Q : SS → LS → Prop) : Prop := match ds with
  | [] => Q σ l
  | _ => False
def kG (gs : WGs) (ds : List D) (Q : SS → LS → Prop) (σ : SS) (l : LS) : Prop := gs ds σ l Q
def gC (g : WG) (gs : WGs) (ds : List D) (σ : SS) (l : LS) (Q : SS → LS → Prop) : Prop := match ds with
  | d :: ds => g (.d d) σ l (kG gs ds Q)
  | [] => False
theorem qgs_nil : QGs X [] gE := PGs.imp pgs_nil fun vs σ H Q ⟨p, σd, l, ds, Qd, hH, R, r, hw, k⟩ => by
  subst hH
  cases r with
  | nil => exact ⟨rfl, k p _ _ l (Ext.refl p) R hw⟩
  | cons _ _ => cases hw
theorem qgs_cons {es : List Expr} {g : WG} {gs : WGs} (h1 : QG X e g) (h2 : QGs X es gs) (hs : (assignEach (e :: es) X.env).map (·.2) = assign e X.env :: (assignEach es X.env).map (·.2) := by rfl) : QGs X (e :: es) (gC g gs) :=
  PGs.imp (pgs_cons h1 h2 hs) fun vs σ H Q ⟨p, σd, l, ds, Qd, hH, R, r, hw, k⟩ => by
    subst hH
    cases r with
    | nil => cases hw
    | cons h r => exact ⟨_, _, rfl, cG_ok R (d := .d _) h hw fun p1 σ1 σd1 l1 e1 R1 q1 => ⟨p1, σd1, l1, _, _, rfl, R1, r.mono e1.hf, q1, fun p2 σ2 σd2 l2 e2 R2 q2 => k p2 σ2 σd2 l2 (e1.trans e2) R2 q2⟩⟩
def gT (n : Nat) (gs : WGs) (d : P) (σ : SS) (l : LS) (Q : SS → LS → Prop) : Prop := match d with
  | .d (.tup ds) => ds.length = n ∧ gs ds σ l Q
  | _ => False
theorem qg_tup {es : List Expr} {k : Nat} {gs : WGs} {n : Nat} (hc : X.calm = true) (h : QGs X es gs) (hn : (assignEach es X.env).length = n := by rfl) (hst : (assignEach es X.env).findIdx? (·.1) = none := by rfl) : QG X (.Tuple es k pos) (gT n gs) :=
  PG.imp (pg_tup hc h hn hst) fun v σ H Q ⟨p, σd, l, d, Qd, hH, R, r, hw, k⟩ => by
    subst hH
    cases d with
    | d d =>
      cases d with
      | tup ds =>
        cases r with
        | tup h1 h2 => exact ⟨_, _, rfl, h1.sq, h2.len.symm.trans hw.1, p, σd, l, ds, Qd, rfl, R, h2, hw.2, k⟩
      | _ => cases hw
    | _ => cases hw
def kAsg (g : WG) (σ : SS) (D : ED) (x : P) (l : LS) : Prop := g x σ l D.nx
def wAsg (we : WE) (g : WG) (D : ED) (σ : SS) (l : LS) : Prop := we σ l (kAsg g σ D) (exK D σ)
theorem asg_ok {g : WG} {D : Ends} {σ : St} {H : Hp} (h : cS X.K W (wAsg we g) D σ H) : tAsg (cE X.K W we) (cG X.K g) D σ H := by
  obtain ⟨p, σd, l, Dd, hH, R, hw, k⟩ := h
  subst hH
  exact cE_ok R hw k.link fun x l1 v p1 e1 R1 r1 q1 => cG_ok R1 r1 q1 fun p2 σ2 σd2 l2 e2 R2 q2 => k.nx p2 σ2 σd2 l2 (e1.trans e2) R2 q2
theorem qs_asg {tg : Expr} {g : WG} (he : QE X W e we) (hg : QG X tg g) (hs : swapsWithSole [tg] e pos.line X.env = pure false := by rfl) (hw : swappedStores [tg] e X.env = pure none := by rfl)
    (h1 : (assignEach [tg] X.env).map (·.2) = [assign tg X.env] := by rfl) : QS X W (.Assign [tg] e pos) (wAsg we g) := PS.imp (ps_asg he hg hs hw h1) fun _ _ _ h => asg_ok h
theorem qs_set {i : Nat} {x : Str} {pos' : Pos} (hN : X.N.Nodup) (hi : X.N[i]? = some x) (hx : Loc X.env.scope x) (he : QE X W e we) (hs : swapsWith e (some (.Name x pos')) pos.line X.env = pure false := by rfl)
    (hf : X.fn x = true ∨ X.env.scope.names.lookup x = some .local := by first | exact .inl rfl | exact .inr rfl | assumption) : QS X W (.Assign [.Name x pos'] e pos) (wAsg we (gN i)) :=
  PS.imp (ps_set hN hi hx he hs hf) fun D σ H h => by
    obtain ⟨p, σd, l, Dd, hH, R, hw, k⟩ := h
    subst hH
    exact cE_ok R hw k.link fun x l1 v p1 e1 R1 r1 q1 => k.nx p1 _ _ l1 e1 (R1.set r1) q1
/-- x op= e of values that are never changed in place -/
def kAug2 (i : Nat) (D : ED) (σ : SS) (z : P) (l : LS) : Prop := D.nx (σ.set i (some z)) l
def kAug1 (i : Nat) (rd : OD2) (D : ED) (σ : SS) (x y : P) (l : LS) : Prop := rd x y l (kAug2 i D σ)
def wAug (i : Nat) (rd : OD2) (we : WE) (D : ED) (σ : SS) (l : LS) : Prop := match σ[i]? with
  | some (some x) => we σ l (kAug1 i rd D σ x) (exK D σ)
  | _ => False
theorem qs_aug {i : Nat} {x : Str} {op : Operator} {ti : TIp} {rd : OD2} {pos' : Pos} (hN : X.N.Nodup) (hi : X.N[i]? = some x) (hx : Loc X.env.scope x) (he : QE X W e we) (ho : PIp X op ti) (hr : RefOp X.K ti rd)
    (hf : X.fn x = true ∨ X.env.scope.names.lookup x = some .local := by first | exact .inl rfl | exact .inr rfl | assumption) : QS X W (.AugAssign (.Name x pos') op e pos) (wAug i rd we) :=
  PS.imp (ps_aug hN hi hx he ho hf) fun D σ H h => by
    obtain ⟨p, σd, l, Dd, hH, R, hw, k⟩ := h
    subst hH
    unfold wAug at hw
    split at hw
    · rename_i d hd
      obtain ⟨v, h1, h2⟩ := R.sl.2 i d hd
      exact ⟨v, h1, cE_ok R hw k.link fun y l1 vy p1 e1 R1 r1 q1 => hr p1 l1 d y v vy _ _ R1.wf R1.ce (h2.mono e1) r1 q1 fun d' l' v' p' e' w' c' r' q' => k.nx p' _ _ l' (e1.trans e') ((R1.ext e' w' c').set r') q'⟩
    · exact hw.elim
end
end QL
set_option Elab.async false
set_option linter.all false
set_option maxRecDepth 100000
set_option maxHeartbeats 4000000
/-! QL3: operators, built-ins, displays, subscripts, methods, over plain data. -/
namespace QL
open PySem L2

section
variable {K : PySem.W.Frag} {p : Pt} {l : LS}
theorem RPs.one {x : P} {vs : List V} (h : RPs K p [x] vs) : ∃ v, vs = [v] ∧ RP K p x v := by
  cases h with
  | cons r t => cases t; exact ⟨_, rfl, r⟩
theorem RPs.two {x y : P} {vs : List V} (h : RPs K p [x, y] vs) : ∃ v w, vs = [v, w] ∧ RP K p x v ∧ RP K p y w := by
  cases h with
  | cons r t =>
    obtain ⟨w, rfl, r2⟩ := RPs.one t
    exact ⟨_, w, rfl, r, r2⟩
/-- a new list, tuple -/
theorem After.newT {Qd : P → LS → Prop} {Q : VK} (k : After K p Qd Q) (w : WF p) (ce : Cells K p l) {xs : List D} {vs : List V} (r : RDs K p xs vs) (q : Qd (.d (.tup xs)) l) : ∀ a, p.H a = none → Q (.ref a) (upd p.H a (.tup vs)) := fun a ha =>
  k _ l _ (p.frz a (.tup vs)) (ext_frz ha) (wf_frz w) (Cells.frz w ce ha) (show RP K (p.frz a (.tup vs)) (.d (.tup xs)) (.ref a) from RD.tup upd_same (r.mono (ext_frz ha).hf)) q
theorem After.newL {Qd : P → LS → Prop} {Q : VK} (k : After K p Qd Q) (w : WF p) (ce : Cells K p l) {xs : List D} {vs : List V} (r : RDs K p xs vs) (q : Qd (.d (.lst xs)) l) : ∀ a, p.H a = none → Q (.ref a) (upd p.H a (.lst vs)) := fun a ha =>
  k _ l _ (p.frz a (.lst vs)) (ext_frz ha) (wf_frz w) (Cells.frz w ce ha) (show RP K (p.frz a (.lst vs)) (.d (.lst xs)) (.ref a) from RD.lst ⟨Or.inr rfl, upd_same⟩ (r.mono (ext_frz ha).hf)) q
/-- a new list that may change -/
theorem After.newC {Qd : P → LS → Prop} {Q : VK} (k : After K p Qd Q) (w : WF p) (ce : Cells K p l) {xs : List D} {vs : List V} (r : RDs K p xs vs) (q : Qd (.loc l.length) (l ++ [.lst xs])) : ∀ a, p.H a = none → Q (.ref a) (upd p.H a (.lst vs)) := fun a ha =>
  k (.loc l.length) (l ++ [.lst xs]) (.ref a) (p.new a (.lst vs)) (ext_new ha) (wf_new w ha) (Cells.new w ce ha (show CellOk K (p.new a (.lst vs)) (.lst xs) a from ⟨fun z => w.nF ha z, vs, upd_same, r.mono (ext_new ha).hf⟩))
    (show RP K (p.new a (.lst vs)) (.loc l.length) (.ref a) from ⟨a, by
      show (p.rho ++ [a])[l.length]? = some a
      rw [ce.1, List.getElem?_append_right (Nat.le_refl _)]
      simp, rfl⟩) q
/-- what becomes of a new list: it stays as it is, or it is a cell -/
inductive Fresh where | frz | cell
def freshL (f : Fresh) (xs : List D) (l : LS) (Q : P → LS → Prop) : Prop := match f with
  | .frz => Q (.d (.lst xs)) l
  | .cell => Q (.loc l.length) (l ++ [.lst xs])
theorem After.fresh {Qd : P → LS → Prop} {Q : VK} (k : After K p Qd Q) (w : WF p) (ce : Cells K p l) {xs : List D} {vs : List V} (r : RDs K p xs vs) (f : Fresh) (q : freshL f xs l Qd) : ∀ a, p.H a = none → Q (.ref a) (upd p.H a (.lst vs)) := by
  cases f with
  | frz => exact k.newL w ce r q
  | cell => exact k.newC w ce r q
/-- ints -/
theorem RDs.ints : ∀ {ns : List Int} {vs : List V}, RDs K p (ns.map .int) vs → vs = ns.map V.int
  | [], _, .nil => rfl
  | n :: ns, _, .cons h r => by
    cases h
    rw [RDs.ints r]
    rfl
theorem RDs.of_ints : ∀ ns : List Int, RDs K p (ns.map .int) (ns.map V.int)
  | [] => .nil
  | n :: ns => .cons (.int n) (RDs.of_ints ns)
theorem RDs.bls : ∀ {ns : List Bool} {vs : List V}, RDs K p (ns.map .bl) vs → vs = ns.map V.bl
  | [], _, .nil => rfl
  | n :: ns, _, .cons h r => by
    cases h
    rw [RDs.bls r]
    rfl
end

/-! ### operators -/
def oII (C : Int → Int → Prop) (g : Int → Int → Int) (x y : P) (l : LS) (Q : P → LS → Prop) : Prop := match x, y with
  | .d (.int i), .d (.int j) => C i j ∧ Q (.d (.int (g i j))) l
  | _, _ => False
def oI0 (g : Int → Int → Int) (x y : P) (l : LS) (Q : P → LS → Prop) : Prop := match x, y with
  | .d (.int i), .d (.int j) => Q (.d (.int (g i j))) l
  | _, _ => False
def oB0 (g : Int → Int → Bool) (x y : P) (l : LS) (Q : P → LS → Prop) : Prop := match x, y with
  | .d (.int i), .d (.int j) => Q (.d (.bl (g i j))) l
  | _, _ => False
section
variable {K : PySem.W.Frag}
theorem ref_II {C : Int → Int → Prop} {g : Int → Int → Int} : RefOp K (rI C fun i j => .int (g i j)) (oII C g) := fun p l x y vx vy Qd Q w ce rx ry h k => by
  unfold oII at h
  split at h
  · cases rx; cases ry
    exact ⟨_, _, rfl, rfl, h.1, k.same w ce (d := .d _) (RD.int _) h.2⟩
  · exact h.elim
theorem ref_I0 {g : Int → Int → Int} : RefOp K (rI0 fun i j => .int (g i j)) (oI0 g) := fun p l x y vx vy Qd Q w ce rx ry h k => by
  unfold oI0 at h
  split at h
  · cases rx; cases ry
    exact ⟨_, _, rfl, rfl, k.same w ce (d := .d _) (RD.int _) h⟩
  · exact h.elim
theorem ref_B0 {g : Int → Int → Bool} : RefOp K (rI0 fun i j => .bl (g i j)) (oB0 g) := fun p l x y vx vy Qd Q w ce rx ry h k => by
  unfold oB0 at h
  split at h
  · cases rx; cases ry
    exact ⟨_, _, rfl, rfl, k.same w ce (d := .d _) (RD.bl _) h⟩
  · exact h.elim
theorem ref_ip {g : Int → Int → Int} : RefOp K (ipI g) (oI0 g) := fun p l x y vx vy Qd Q w ce rx ry h k => by
  unfold oI0 at h
  split at h
  · cases rx; cases ry
    exact ⟨_, _, rfl, rfl, k.same w ce (d := .d _) (RD.int _) h⟩
  · exact h.elim
def oU (g : Int → Int) (x : P) (l : LS) (Q : P → LS → Prop) : Prop := match x with
  | .d (.int i) => Q (.d (.int (g i))) l
  | _ => False
theorem ref_U {g : Int → Int} : RefUn K (rU fun i => .int (g i)) (oU g) := fun p l x vx Qd Q w ce rx h k => by
  unfold oU at h
  split at h
  · cases rx
    exact ⟨_, rfl, k.same w ce (d := .d _) (RD.int _) h⟩
  · exact h.elim
/-- is None -/
def isNon : P → Bool
  | .d .non => true
  | _ => false
theorem isNon_ok {p : Pt} {x : P} {v : V} (r : RP K p x v) : decide (v = .non) = isNon x := by
  cases x with
  | d x => cases x <;> cases r <;> simp [isNon]
  | loc _ => obtain ⟨a, _, rfl⟩ := r; simp [isNon]
  | exc _ _ _ _ => obtain ⟨rfl, _⟩ := r; simp [isNon]
def oIs (neg : Bool) (x y : P) (l : LS) (Q : P → LS → Prop) : Prop := match y with
  | .d .non => Q (.d (.bl (if neg then !isNon x else isNon x))) l
  | _ => False
theorem ref_isN : RefOp K (fun x y H Q => y = .non ∧ Q (.bl (decide (x = .non))) H) (oIs false) := fun p l x y vx vy Qd Q w ce rx ry h k => by
  unfold oIs at h
  split at h
  · cases ry
    exact ⟨rfl, k.same w ce (d := .d _) (by rw [isNon_ok rx]; exact RD.bl _) h⟩
  · exact h.elim
theorem ref_notN : RefOp K (fun x y H Q => y = .non ∧ Q (.bl (!decide (x = .non))) H) (oIs true) := fun p l x y vx vy Qd Q w ce rx ry h k => by
  unfold oIs at h
  split at h
  · cases ry
    exact ⟨rfl, k.same w ce (d := .d _) (by rw [isNon_ok rx]; exact RD.bl _) h⟩
  · exact h.elim

/-! ### == of data -/
mutual
def D.py : D → PyData
  | .non => .none
  | .bl b => .bool b
  | .int i => .int i
  | .str x => .str x
  | .tup xs => .tuple (D.pys xs)
  | .lst xs => .list (D.pys xs)
  | .scr xs => .list (D.pys xs)
  | .ty _ => .none
  | .ktu xs => .tuple (D.pys xs)
  | .tux xs => .tuple (D.pys xs)
  | .dk _ _ => .none
  | .dt _ _ => .none
  | .obj _ _ _ => .none
def D.pys : List D → List PyData
  | [] => []
  | x :: xs => x.py :: D.pys xs
end
/-- data no deeper than n -/
def dOk : Nat → D → Prop
  | _, .non => True
  | _, .bl _ => True
  | _, .int _ => True
  | _, .str x => PyData.strOk x = true
  | n + 1, .tup xs => ∀ x ∈ xs, dOk n x
  | n + 1, .lst xs => ∀ x ∈ xs, dOk n x
  | n + 1, .ktu xs => ∀ x ∈ xs, dOk n x
  | n + 1, .tux xs => ∀ x ∈ xs, dOk n x
  | _, _ => False
def D.eqv (a b : D) : Bool := PyData.eqv a.py b.py
theorem dOk_tup {n : Nat} {xs : List D} : dOk (n + 1) (.tup xs) ↔ ∀ x ∈ xs, dOk n x := by simp only [dOk]
theorem dOk_lst {n : Nat} {xs : List D} : dOk (n + 1) (.lst xs) ↔ ∀ x ∈ xs, dOk n x := by simp only [dOk]
mutual
theorem dOk_sh : ∀ (x : D) (n : Nat), dOk n x → x.py.canLay0 = true ∧ x.py.depth ≤ n
  | .non, n, _ => by simp [D.py, PyData.canLay0, PyData.depth]
  | .bl _, n, _ => by simp [D.py, PyData.canLay0, PyData.depth]
  | .int _, n, _ => by simp [D.py, PyData.canLay0, PyData.depth]
  | .str x, n, h => by
    have h' : PyData.strOk x = true := by cases n <;> exact h
    simp [D.py, PyData.canLay0, PyData.depth, h']
  | .ty _, n, h => by cases n <;> exact h.elim
  | .scr _, n, h => by cases n <;> exact h.elim
  | .obj _ _ _, n, h => by cases n <;> exact h.elim
  | .dk _ _, n, h => by cases n <;> exact h.elim
  | .dt _ _, n, h => by cases n <;> exact h.elim
  | .ktu xs, 0, h => h.elim
  | .ktu xs, n + 1, h => by
    have q := dOks_sh xs n h
    simp only [D.py, PyData.canLay0, PyData.depth]
    exact ⟨q.1, by omega⟩
  | .tux xs, 0, h => h.elim
  | .tux xs, n + 1, h => by
    have q := dOks_sh xs n h
    simp only [D.py, PyData.canLay0, PyData.depth]
    exact ⟨q.1, by omega⟩
  | .tup xs, 0, h => h.elim
  | .lst xs, 0, h => h.elim
  | .tup xs, n + 1, h => by
    have q := dOks_sh xs n h
    simp only [D.py, PyData.canLay0, PyData.depth]
    exact ⟨q.1, by omega⟩
  | .lst xs, n + 1, h => by
    have q := dOks_sh xs n h
    simp only [D.py, PyData.canLay0, PyData.depth]
    exact ⟨q.1, by omega⟩
theorem dOks_sh : ∀ (xs : List D) (n : Nat), (∀ x ∈ xs, dOk n x) → PyData.canLayAll0 (D.pys xs) = true ∧ PyData.depthAll (D.pys xs) ≤ n
  | [], n, _ => by simp [D.pys, PyData.canLayAll0, PyData.depthAll]
  | x :: xs, n, h => by
    have h1 := dOk_sh x n (h x List.mem_cons_self)
    have h2 := dOks_sh xs n fun y hy => h y (List.mem_cons_of_mem _ hy)
    simp only [D.pys, PyData.canLayAll0, PyData.depthAll, h1.1, h2.1, Bool.and_self, true_and]
    omega
end
theorem dOk_shaped {x : D} {n : Nat} (h : dOk n x) (hn : n ≤ 64 := by decide) : SeqAt.shaped x.py = true := by
  obtain ⟨h1, h2⟩ := dOk_sh x n h
  simp only [SeqAt.shaped, h1, Bool.true_and, decide_eq_true_eq]
  omega
mutual
theorem RD.dp {p : Pt} : ∀ {x : D} {v : V} {n : Nat}, RD K p x v → dOk n x → Dp K p.H v x.py
  | _, _, _, .non, _ => .non
  | _, _, _, .bl b, _ => .bl b
  | _, _, _, .int i, _ => .int i
  | _, _, _, .str x, _ => .str x
  | _, _, n, .ty _, h => by cases n <;> exact h.elim
  | _, _, n, .scr _ _, h => by cases n <;> exact h.elim
  | _, _, n, .obj _ _ _, h => by cases n <;> exact h.elim
  | _, _, n, .dk _ _ _ _, h => by cases n <;> exact h.elim
  | _, _, n, .dt _ _ _ _, h => by cases n <;> exact h.elim
  | _, _, 0, .ktu _ _, h => h.elim
  | _, _, n + 1, .ktu h1 h2, h => .tup (seqT_empty h1) (RDs.dp h2 h)
  | _, _, 0, .tux _ _ _ _, h => h.elim
  | _, _, n + 1, .tux _ h1 _ h2, h => .tup (.inl (.inr ⟨_, h1⟩)) (RDs.dp h2 h)
  | _, _, 0, .tup _ _, h => h.elim
  | _, _, 0, .lst _ _, h => h.elim
  | _, _, n + 1, .tup h1 h2, h => .tup h1.sq (RDs.dp h2 h)
  | _, _, n + 1, .lst h1 h2, h => .lst (LstAt.sq (K := K) h1) (RDs.dp h2 h)
theorem RDs.dp {p : Pt} : ∀ {xs : List D} {vs : List V} {n : Nat}, RDs K p xs vs → (∀ x ∈ xs, dOk n x) → DpAll K p.H vs (D.pys xs)
  | _, _, _, .nil, _ => .nil
  | _, _, _, .cons h1 h2, h => .cons (RD.dp h1 (h _ List.mem_cons_self)) (RDs.dp h2 fun y hy => h y (List.mem_cons_of_mem _ hy))
end
/-- a value as data -/
def snap (l : LS) : P → Option D
  | .d x => some x
  | .loc n => match l[n]? with
    | some (.lst xs) => some (.lst xs)
    | some (.frz xs) => some (.lst xs)
    | some (.own _ xs) => some (.lst xs)
    | _ => none
  | _ => none
theorem snap_ok {p : Pt} {l : LS} {x : P} {v : V} {d : D} {n : Nat} (ce : Cells K p l) (r : RP K p x v) (h : snap l x = some d) (o : dOk n d) : Dp K p.H v d.py := by
  cases x with
  | d x =>
    cases h
    exact RD.dp r o
  | loc m =>
    obtain ⟨a, h1, rfl⟩ := r
    cases e : l[m]? with
    | none => simp [snap, e] at h
    | some c =>
      obtain ⟨b, h2, h3⟩ := ce.2 m c e
      rw [h1] at h2
      cases h2
      cases c with
      | lst ys =>
        simp [snap, e] at h
        subst h
        obtain ⟨_, vs, h4, h5⟩ := h3
        cases n with
        | zero => exact o.elim
        | succ n => exact .lst (.inl (.inl h4)) (RDs.dp h5 o)
      | frz ys =>
        simp [snap, e] at h
        subst h
        obtain ⟨vs, h4, h5⟩ := h3
        cases n with
        | zero => exact o.elim
        | succ n => exact .lst (LstAt.sq (K := K) h4) (RDs.dp h5 o)
      | dk _ => simp [snap, e] at h
      | dt _ => simp [snap, e] at h
      | fz _ => simp [snap, e] at h
      | own _ ys =>
        simp [snap, e] at h
        subst h
        obtain ⟨_, _, vs, h4, h5⟩ := h3
        cases n with
        | zero => exact o.elim
        | succ n => exact .lst (.inl (.inl h4)) (RDs.dp h5 o)
      | dkc _ => simp [snap, e] at h
      | dtc _ => simp [snap, e] at h
      | lsc _ => simp [snap, e] at h
      | ins _ _ _ => simp [snap, e] at h
  | exc _ _ _ _ => cases h
def oEq (neg : Bool) (x y : P) (l : LS) (Q : P → LS → Prop) : Prop := match snap l x, snap l y with
  | some a, some b => dOk 60 a ∧ dOk 60 b ∧ Q (.d (.bl (if neg then !D.eqv a b else D.eqv a b))) l
  | _, _ => False
theorem ref_eq : RefOp K (rEqD K) (oEq false) := fun p l x y vx vy Qd Q w ce rx ry h k => by
  unfold oEq at h
  split at h
  · rename_i a b ha hb
    exact ⟨_, _, snap_ok ce rx ha h.1, snap_ok ce ry hb h.2.1, dOk_shaped h.1, dOk_shaped h.2.1, k.same w ce (d := .d _) (RD.bl _) h.2.2⟩
  · exact h.elim
theorem ref_ne : RefOp K (rNeD K) (oEq true) := fun p l x y vx vy Qd Q w ce rx ry h k => by
  unfold oEq at h
  split at h
  · rename_i a b ha hb
    exact ⟨_, _, snap_ok ce rx ha h.1, snap_ok ce ry hb h.2.1, dOk_shaped h.1, dOk_shaped h.2.1, k.same w ce (d := .d _) (RD.bl _) h.2.2⟩
  · exact h.elim
/-! what eqv says -/
/-- no True, no False -/
def noB : D → Prop
  | .bl _ => False
  | .tup xs => ∀ x ∈ xs, noB x
  | .lst xs => ∀ x ∈ xs, noB x
  | .scr _ => False
  | .ty _ => False
  | .obj _ _ _ => False
  | .ktu _ => False
  | .tux _ => False
  | .dk _ _ => False
  | .dt _ _ => False
  | _ => True
mutual
theorem eqv_of : ∀ (a b : D), noB a → noB b → (PyData.eqv a.py b.py = true ↔ a = b)
  | .non, b, _, hb => by cases b <;> simp_all [D.py, PyData.eqv, noB]
  | .int i, b, _, hb => by cases b <;> simp_all [D.py, PyData.eqv, noB]
  | .str i, b, _, hb => by cases b <;> simp_all [D.py, PyData.eqv, noB]
  | .tup xs, b, ha, hb => by
    cases b with
    | tup ys =>
      simp only [noB] at ha hb
      simp only [D.py, PyData.eqv, D.tup.injEq]
      exact eqvs_of xs ys ha hb
    | _ => simp_all [D.py, PyData.eqv, noB]
  | .lst xs, b, ha, hb => by
    cases b with
    | lst ys =>
      simp only [noB] at ha hb
      simp only [D.py, PyData.eqv, D.lst.injEq]
      exact eqvs_of xs ys ha hb
    | _ => simp_all [D.py, PyData.eqv, noB]
  | .bl _, _, ha, _ => by simp [noB] at ha
  | .scr _, _, ha, _ => by simp [noB] at ha
  | .ty _, _, ha, _ => by simp [noB] at ha
  | .obj _ _ _, _, ha, _ => by simp [noB] at ha
  | .ktu _, _, ha, _ => by simp [noB] at ha
  | .tux _, _, ha, _ => by simp [noB] at ha
  | .dk _ _, _, ha, _ => by simp [noB] at ha
  | .dt _ _, _, ha, _ => by simp [noB] at ha
theorem eqvs_of : ∀ (as bs : List D), (∀ x ∈ as, noB x) → (∀ x ∈ bs, noB x) → (PyData.eqvAll (D.pys as) (D.pys bs) = true ↔ as = bs)
  | [], [], _, _ => by simp [D.pys, PyData.eqvAll]
  | [], _ :: _, _, _ => by simp [D.pys, PyData.eqvAll]
  | _ :: _, [], _, _ => by simp [D.pys, PyData.eqvAll]
  | a :: as, b :: bs, ha, hb => by
    simp only [D.pys, PyData.eqvAll, Bool.and_eq_true, List.cons.injEq]
    rw [eqv_of a b (ha a List.mem_cons_self) (hb b List.mem_cons_self), eqvs_of as bs (fun x hx => ha x (List.mem_cons_of_mem _ hx)) (fun x hx => hb x (List.mem_cons_of_mem _ hx))]
end
theorem D.eqv_iff {a b : D} (ha : noB a) (hb : noB b) : D.eqv a b = true ↔ a = b := eqv_of a b ha hb
theorem D.eqv_self {a : D} (ha : noB a) : D.eqv a a = true := (eqv_of a a ha ha).mpr rfl
@[simp] theorem D.eqv_int (i j : Int) : D.eqv (.int i) (.int j) = decide (i = j) := by
  by_cases h : i = j <;> simp [D.eqv, D.py, PyData.eqv, h]
@[simp] theorem D.eqv_bl (i j : Bool) : D.eqv (.bl i) (.bl j) = (i == j) := by simp [D.eqv, D.py, PyData.eqv]
@[simp] theorem D.eqv_str (i j : Str) : D.eqv (.str i) (.str j) = (i == j) := by simp [D.eqv, D.py, PyData.eqv]
@[simp] theorem D.eqv_non : D.eqv .non .non = true := by simp [D.eqv, D.py, PyData.eqv]
end
end QL
set_option Elab.async false
set_option linter.all false
set_option maxRecDepth 100000
set_option maxHeartbeats 4000000
/-! QL4: sequences, built-ins, methods. -/
namespace QL
open PySem L2

section
variable {K : PySem.W.Frag} {p : Pt} {l : LS}
/-! ### in, not in: flat things -/
def flatD : D → Bool
  | .non => true
  | .bl _ => true
  | .int _ => true
  | .str _ => true
  | _ => false
theorem flat_ok {x : D} {v : V} (r : RD K p x v) (f : flatD x = true) : flatV v = true ∧ ∀ y u, RD K p y u → flatD y = true → eqV u v = D.eqv y x := by
  cases r with
  | non => exact ⟨rfl, fun y u r f => by cases r <;> simp_all [eqV, D.eqv, D.py, PyData.eqv, flatD]⟩
  | bl b => exact ⟨rfl, fun y u r f => by cases r <;> simp_all [eqV, D.eqv, D.py, PyData.eqv, flatD]⟩
  | int i => exact ⟨rfl, fun y u r f => by cases r <;> simp_all [eqV, D.eqv, D.py, PyData.eqv, flatD]⟩
  | str i => exact ⟨rfl, fun y u r f => by cases r <;> simp_all [eqV, D.eqv, D.py, PyData.eqv, flatD]⟩
  | ty _ => cases f
  | tup _ _ => cases f
  | lst _ _ => cases f
  | scr _ _ => cases f
  | ktu _ _ => cases f
  | tux _ _ _ _ => cases f
  | dk _ _ _ _ => cases f
  | dt _ _ _ _ => cases f
  | obj _ _ _ => cases f
theorem flats_ok {x : D} {v : V} (r : RD K p x v) (f : flatD x = true) : ∀ {ys : List D} {vs : List V}, RDs K p ys vs → ys.all flatD = true → vs.all flatV = true ∧ inV v vs = ys.any fun y => D.eqv y x
  | _, _, .nil, _ => ⟨rfl, rfl⟩
  | y :: ys, u :: us, .cons h t, g => by
    simp only [List.all_cons, Bool.and_eq_true] at g
    have ih := flats_ok r f t g.2
    have h1 := (flat_ok r f).2 y u h g.1
    refine ⟨by simp [(flat_ok h g.1).1, ih.1], ?_⟩
    have ih2 := ih.2
    unfold inV at ih2 ⊢
    rw [List.any_cons, List.any_cons, h1, ih2]
def oIn (neg : Bool) (x y : P) (l : LS) (Q : P → LS → Prop) : Prop := match x, seqOf l y with
  | .d a, some ys => flatD a = true ∧ ys.all flatD = true ∧ Q (.d (.bl (if neg then !(ys.any fun z => D.eqv z a) else ys.any fun z => D.eqv z a))) l
  | _, _ => False
theorem ref_in {neg : Bool} : RefOp K (rIn K neg) (oIn neg) := fun p l x y vx vy Qd Q w ce rx ry h k => by
  unfold oIn at h
  split at h
  · rename_i a ys hy
    obtain ⟨b, vs, rfl, hs, hr⟩ := seqOf_ok ce ry hy
    have hh := flats_ok (p := p) rx h.1 hr h.2.1
    refine ⟨b, vs, rfl, hs, (flat_ok (p := p) rx h.1).1, hh.1, ?_⟩
    rw [hh.2]
    exact k.same w ce (d := .d _) (RD.bl _) h.2.2
  · exact h.elim

/-! ### joining -/
def oCat (f : Fresh) (x y : P) (l : LS) (Q : P → LS → Prop) : Prop := match lstOf l x, lstOf l y with
  | some a, some b => a.length + b.length ≤ sizeLine ∧ freshL f (a ++ b) l Q
  | _, _ => False
theorem ref_cat {f : Fresh} : RefOp K rCat (oCat f) := fun p l x y vx vy Qd Q w ce rx ry h k => by
  unfold oCat at h
  split at h
  · rename_i xs ys hx hy
    obtain ⟨a, vs, rfl, ha, ra⟩ := lstOf_ok ce rx hx
    obtain ⟨b, ws, rfl, hb, rb⟩ := lstOf_ok ce ry hy
    refine ⟨a, b, vs, ws, rfl, rfl, ha, hb, by rw [← ra.len, ← rb.len]; exact h.1, k.fresh w ce (ra.append rb) f h.2⟩
  · exact h.elim
def oCatT (x y : P) (l : LS) (Q : P → LS → Prop) : Prop := match x, y with
  | .d (.tup a), .d (.tup b) => a.length + b.length ≤ sizeLine ∧ Q (.d (.tup (a ++ b))) l
  | _, _ => False
theorem ref_catT : RefOp K (rCatA K) oCatT := fun p l x y vx vy Qd Q w ce rx ry h k => by
  unfold oCatT at h
  split at h
  · rename_i xs ys
    cases rx with
    | tup h1 r1 =>
      cases ry with
      | tup h2 r2 =>
        refine ⟨_, _, _, _, rfl, rfl, h1.sq, h2.sq, by rw [← r1.len, ← r2.len]; exact h.1, fun e => ?_, fun _ e => ?_, fun _ _ => k.newT w ce (r1.append r2) h.2⟩
        · subst e
          cases r1
          exact k.same w ce (d := .d _) (RD.tup h2 r2) h.2
        · subst e
          cases r2
          have q := h.2
          rw [List.append_nil] at q
          exact k.same w ce (d := .d _) (RD.tup h1 r1) q
  · exact h.elim
def oCatS (x y : P) (l : LS) (Q : P → LS → Prop) : Prop := match x, y with
  | .d (.str a), .d (.str b) => a.length + b.length ≤ sizeLine ∧ Q (.d (.str (a ++ b))) l
  | _, _ => False
theorem ref_catS : RefOp K (fun x y H Q => ∃ i j, x = .str i ∧ y = .str j ∧ i.length + j.length ≤ sizeLine ∧ Q (.str (i ++ j)) H) oCatS := fun p l x y vx vy Qd Q w ce rx ry h k => by
  unfold oCatS at h
  split at h
  · cases rx; cases ry
    exact ⟨_, _, rfl, rfl, h.1, k.same w ce (d := .d _) (RD.str _) h.2⟩
  · exact h.elim
/-! ### subscripts -/
theorem RDs.atI {xs : List D} {vs : List V} {i : Int} {x : D} (r : RDs K p xs vs) (e : atI xs i = some x) : ∃ v, atI vs i = some v ∧ RD K p x v := by
  unfold L2.atI at e ⊢
  rw [← r.len]
  cases q : ixN xs.length i with
  | none => rw [q] at e; cases e
  | some j =>
    rw [q] at e
    exact r.get e
def oIx (x y : P) (l : LS) (Q : P → LS → Prop) : Prop := match y with
  | .d (.int i) => match seqOf l x with
    | some xs => ∃ v, atI xs i = some v ∧ Q (.d v) l
    | none => match x with
      | .d (.str z) => z.length ≤ sizeLine ∧ ∃ c, atI z.cps.toList i = some c ∧ Q (.d (.str ⟨#[c]⟩)) l
      | _ => False
  | _ => False
theorem ref_ix : RefOp K (rIx K) oIx := fun p l x y vx vy Qd Q w ce rx ry h k => by
  unfold oIx at h
  split at h
  · rename_i i
    cases ry
    split at h
    · rename_i xs hx
      obtain ⟨a, vs, rfl, hs, hr⟩ := seqOf_ok ce rx hx
      obtain ⟨d, h1, h2⟩ := h
      obtain ⟨v, h3, h4⟩ := hr.atI h1
      have q := k.same w ce (d := .d d) h4 h2
      rcases hs with hs | hs
      · exact .inl ⟨a, vs, i, v, rfl, rfl, hs, h3, q⟩
      · exact .inr (.inl ⟨a, vs, i, v, rfl, rfl, hs, h3, q⟩)
    · split at h
      · cases rx
        obtain ⟨hz, c, h1, h2⟩ := h
        exact .inr (.inr ⟨_, i, c, rfl, rfl, hz, h1, k.same w ce (d := .d _) (RD.str _) h2⟩)
      · exact h.elim
  · exact h.elim
end
section
variable {X : Cx} {W : WX} {a b e o : Expr} {es : List Expr} {wa wb we wo : WE} {ws : WA} {pos : Pos}
theorem qe_ix (ha : QE X W a wa) (hb : QE X W b wb) (hs : PlainIx b) : QE X W (.Subscript a b pos) (wOp oIx wa wb) := PE.imp (pe_ix ix_seq ha hb hs) fun _ _ _ h => op_ok ref_ix h
/-! ### slices -/
abbrev WO := SS → LS → (Option Int → LS → Prop) → EK → Prop
def cO (K : PySem.W.Frag) (W : WX) (w : WO) : TO := fun σ H Q => ∃ (p : Pt) (σd : SS) (l : LS) (Qd : Option Int → LS → Prop) (Ed : EK), p.H = H ∧ Rel K p σ σd l ∧ w σd l Qd Ed ∧
  (∀ b l' p', Ext p p' → Rel K p' σ σd l' → Qd b l' → Q b p'.H) ∧ LinkE K W p σ σd Ed
def QO (X : Cx) (W : WX) (e : Option Expr) (w : WO) : Prop := PO X e (cO X.K W w)
theorem PO.imp {X : Cx} {e : Option Expr} {t t' : TO} (h : PO X e t) (k : ∀ σ H Q, t' σ H Q → t σ H Q) : PO X e t' := ⟨fun pins s σ H Q I q => h.run pins s σ H Q I (k σ H Q q)⟩
theorem cO_ok {K : PySem.W.Frag} {p : Pt} {σ : St} {σd : SS} {l : LS} {w : WO} {Q : Option Int → Hp → Prop} {Qd : Option Int → LS → Prop} {Ed : EK} (R : Rel K p σ σd l) (hw : w σd l Qd Ed) (lk : LinkE K W p σ σd Ed)
    (k : ∀ b l' p', Ext p p' → Rel K p' σ σd l' → Qd b l' → Q b p'.H) : cO K W w σ p.H Q := ⟨p, σd, l, Qd, Ed, rfl, R, hw, k, lk⟩
def wNoPart (_ : SS) (l : LS) (Q : Option Int → LS → Prop) (_ : EK) : Prop := Q none l
def kPart (Q : Option Int → LS → Prop) (x : P) (l : LS) : Prop := match x with
  | .d (.int i) => Q (some i) l
  | _ => False
def wPart (we : WE) (σ : SS) (l : LS) (Q : Option Int → LS → Prop) (E : EK) : Prop := we σ l (kPart Q) E
theorem qo_none : QO X W none wNoPart := PO.imp po_none fun σ H Q ⟨p, σd, l, Qd, Ed, hH, R, hw, k, lk⟩ => by
  subst hH
  exact k none l p (Ext.refl p) R hw
theorem qo_some (h : QE X W e we) : QO X W (some e) (wPart we) := PO.imp (po_some h) fun σ H Q ⟨p, σd, l, Qd, Ed, hH, R, hw, k, lk⟩ => by
  subst hH
  refine cE_ok R hw lk fun x l1 v p1 e1 R1 r1 q1 => ?_
  unfold kPart at q1
  split at q1
  · cases r1
    exact ⟨_, rfl, k _ l1 p1 e1 R1 q1⟩
  · exact q1.elim
def cutD {α : Type} (xs : List α) (lo hi : Option Int) : List α := (xs.drop (HT.sIx xs.length 0 lo)).take (HT.sIx xs.length xs.length hi - HT.sIx xs.length 0 lo)
theorem RDs.cut {K : PySem.W.Frag} {p : Pt} {xs : List D} {vs : List V} (r : RDs K p xs vs) (lo hi : Option Int) : RDs K p (cutD xs lo hi) (cutV vs lo hi) := by
  unfold cutD cutV
  rw [r.len]
  exact (r.drop _).take _
abbrev ODs := P → Option Int → Option Int → LS → (P → LS → Prop) → Prop
def RefSl (K : PySem.W.Frag) (r : V → Option Int → Option Int → Hp → VK → Prop) (rd : ODs) : Prop := ∀ (p : Pt) (l : LS) (x : P) (vx : V) (lo hi : Option Int) (Qd : P → LS → Prop) (Q : VK), WF p → Cells K p l → RP K p x vx → rd x lo hi l Qd → After K p Qd Q → r vx lo hi p.H Q
def kSl3 (rd : ODs) (x : P) (i : Option Int) (Q : P → LS → Prop) (j : Option Int) (l : LS) : Prop := rd x i j l Q
def kSl2 (rd : ODs) (wh : WO) (σ : SS) (x : P) (Q : P → LS → Prop) (E : EK) (i : Option Int) (l : LS) : Prop := wh σ l (kSl3 rd x i Q) E
def kSl1 (rd : ODs) (wl wh : WO) (σ : SS) (Q : P → LS → Prop) (E : EK) (x : P) (l : LS) : Prop := wl σ l (kSl2 rd wh σ x Q E) E
def wSl (rd : ODs) (we : WE) (wl wh : WO) (σ : SS) (l : LS) (Q : P → LS → Prop) (E : EK) : Prop := we σ l (kSl1 rd wl wh σ Q E) E
theorem qe_sl {r : V → Option Int → Option Int → Hp → VK → Prop} {rd : ODs} {lo hi : Option Expr} {wl wh : WO} {p2 : Pos} (hr : SlR X r) (rr : RefSl X.K r rd) (he : QE X W e we) (hl : QO X W lo wl) (hu : QO X W hi wh) : QE X W (.Subscript e (.Slice lo hi none p2) pos) (wSl rd we wl wh) :=
  PE.imp (pe_slice hr he hl hu) fun σ H Q ⟨p, σd, l, Qd, Ed, hH, R, hw, k, lk⟩ => by
    subst hH
    exact cE_ok R hw lk fun x l1 v p1 e1 R1 r1 q1 => cO_ok R1 q1 (lk.mono e1) fun i l2 p2 e2 R2 q2 => cO_ok R2 q2 (lk.mono (e1.trans e2)) fun j l3 p3 e3 R3 q3 =>
      rr p3 l3 x v i j _ _ R3.wf R3.ce (r1.mono (e2.trans e3)) q3 fun d l' v' p' e' w' c' r' q' => k d l' v' p' (((e1.trans e2).trans e3).trans e') (R3.ext e' w' c') r' q'
def oSlL (f : Fresh) (x : P) (lo hi : Option Int) (l : LS) (Q : P → LS → Prop) : Prop := match x with
  | .d (.tup _) => False
  | .d (.ktu _) => False
  | .d (.tux _) => False
  | _ => match seqOf l x with
    | some xs => freshL f (cutD xs lo hi) l Q
    | none => False
theorem ref_slL {K : PySem.W.Frag} {f : Fresh} : RefSl K (rSlL K) (oSlL f) := fun p l x vx lo hi Qd Q w ce rx h k => by
  unfold oSlL at h
  split at h
  · exact h.elim
  · exact h.elim
  · exact h.elim
  · rename_i nt nt2 nt3
    split at h
    · rename_i xs hx
      cases x with
      | d x =>
        cases x with
        | tup _ => exact absurd rfl (nt _)
        | ktu _ => exact absurd rfl (nt2 _)
        | tux _ => exact absurd rfl (nt3 _)
        | lst ys =>
          cases hx
          cases rx with
          | lst h1 h2 => exact ⟨_, _, rfl, LstAt.sq (K := K) h1, k.fresh w ce (h2.cut lo hi) f h⟩
        | scr ys =>
          cases hx
          cases rx with
          | scr h1 h2 => exact ⟨_, _, rfl, h1.sq, k.fresh w ce (h2.cut lo hi) f h⟩
        | _ => cases hx
      | loc n =>
        obtain ⟨a, vs, rfl, h1, h2⟩ := lstOf_ok ce rx (show lstOf l (.loc n) = some xs from hx)
        exact ⟨_, _, rfl, .inl (.inl h1), k.fresh w ce (h2.cut lo hi) f h⟩
      | exc _ _ _ _ => cases hx
    · exact h.elim
def oSlT (x : P) (lo hi : Option Int) (l : LS) (Q : P → LS → Prop) : Prop := match x with
  | .d (.tup xs) => Q (.d (.tup (cutD xs lo hi))) l
  | _ => False
theorem ref_slT {K : PySem.W.Frag} : RefSl K (rSlA K) oSlT := fun p l x vx lo hi Qd Q w ce rx h k => by
  unfold oSlT at h
  split at h
  · rename_i xs
    cases rx with
    | tup h1 r1 =>
      refine ⟨_, _, rfl, h1.sq, fun e => ?_, fun _ => k.newT w ce (r1.cut lo hi) h⟩
      have e1 : cutD xs lo hi = xs := by
        unfold cutD
        rw [r1.len, e.1, e.2]
        simp [← r1.len]
      rw [e1] at h
      exact k.same w ce (d := .d _) (RD.tup h1 r1) h
  · exact h.elim
def oSlS (x : P) (lo hi : Option Int) (l : LS) (Q : P → LS → Prop) : Prop := match x with
  | .d (.str z) => z.length ≤ sizeLine ∧ Q (.d (.str (cutS z lo hi))) l
  | _ => False
theorem ref_slS {K : PySem.W.Frag} : RefSl K rSlS oSlS := fun p l x vx lo hi Qd Q w ce rx h k => by
  unfold oSlS at h
  split at h
  · cases rx
    exact ⟨_, rfl, h.1, k.same w ce (d := .d _) (RD.str _) h.2⟩
  · exact h.elim
/-! ### displays -/
def asDs : List P → Option (List D)
  | [] => some []
  | .d x :: r => (asDs r).map (x :: ·)
  | _ :: _ => none
theorem asDs_ok {K : PySem.W.Frag} {p : Pt} : ∀ {xs : List P} {vs : List V} {ds : List D}, RPs K p xs vs → asDs xs = some ds → RDs K p ds vs
  | [], _, _, .nil, h => by cases h; exact .nil
  | .d x :: r, _, ds, .cons h t, e => by
    simp only [asDs, Option.map_eq_some_iff] at e
    obtain ⟨ds', e1, rfl⟩ := e
    exact .cons h (asDs_ok t e1)
  | .loc _ :: _, _, _, _, e => by cases e
  | .exc _ _ _ _ :: _, _, _, _, e => by cases e
def kTupD (Q : P → LS → Prop) (xs : List P) (l : LS) : Prop := match asDs xs with
  | some ds => ds.length ≤ 1000 ∧ Q (.d (.tup ds)) l
  | none => False
def wTup (ws : WA) (σ : SS) (l : LS) (Q : P → LS → Prop) (E : EK) : Prop := ws σ l (kTupD Q) E
theorem qe_tup {x1} (h : QA X W es ws) : QE X W (.Tuple es x1 pos) (wTup ws) := PE.imp (pe_tup h) fun σ H Q ⟨p, σd, l, Qd, Ed, hH, R, hw, k, lk⟩ => by
  subst hH
  refine cA_ok R hw lk fun xs l1 vs p1 e1 R1 r1 q1 => ?_
  unfold kTupD at q1
  split at q1
  · rename_i ds hd
    have r := asDs_ok r1 hd
    refine ⟨by rw [← r.len]; exact Nat.le_trans q1.1 (by decide), After.newT (fun d l' v' p' e' w' c' r' q' => k d l' v' p' (e1.trans e') (R1.ext e' w' c') r' q') R1.wf R1.ce r q1.2⟩
  · exact q1.elim
def kLstD (f : Fresh) (Q : P → LS → Prop) (xs : List P) (l : LS) : Prop := match asDs xs with
  | some ds => ds.length ≤ 1000 ∧ freshL f ds l Q
  | none => False
def wLst (f : Fresh) (ws : WA) (σ : SS) (l : LS) (Q : P → LS → Prop) (E : EK) : Prop := ws σ l (kLstD f Q) E
theorem qe_lst {f : Fresh} (h : QA X W es ws) : QE X W (.List es pos) (wLst f ws) := PE.imp (pe_lst h) fun σ H Q ⟨p, σd, l, Qd, Ed, hH, R, hw, k, lk⟩ => by
  subst hH
  refine cA_ok R hw lk fun xs l1 vs p1 e1 R1 r1 q1 => ?_
  unfold kLstD at q1
  split at q1
  · rename_i ds hd
    have r := asDs_ok r1 hd
    refine ⟨by rw [← r.len]; exact Nat.le_trans q1.1 (by decide), After.fresh (fun d l' v' p' e' w' c' r' q' => k d l' v' p' (e1.trans e') (R1.ext e' w' c') r' q') R1.wf R1.ce r f q1.2⟩
  · exact q1.elim
/-- a cell that will not change any more -/
def kIce (Q : P → LS → Prop) (x : P) (l : LS) : Prop := match x with
  | .loc n => match l[n]? with
    | some (.lst xs) => Q (.d (.lst xs)) (l.set n (.frz xs))
    | some (.frz xs) => Q (.d (.lst xs)) l
    | some (.dk kvs) => Q (.d (.dk (kvs.map (·.1)) (kvs.map (·.2)))) (l.set n (.fz (.dk (kvs.map (·.1)) (kvs.map (·.2)))))
    | some (.dt kvs) => Q (.d (.dt (kvs.map (·.1)) (kvs.map (·.2)))) (l.set n (.fz (.dt (kvs.map (·.1)) (kvs.map (·.2)))))
    | some (.fz x) => Q (.d x) l
    | some (.own _ xs) => Q (.d (.lst xs)) (l.set n (.frz xs))
    | some (.ins C ns xs) => Q (.d (.obj C ns xs)) (l.set n (.fz (.obj C ns xs)))
    | _ => False
  | x => Q x l
def wIce (we : WE) (σ : SS) (l : LS) (Q : P → LS → Prop) (E : EK) : Prop := we σ l (kIce Q) E
def tIceP (t : TE) : TE := fun σ H Q => t σ H fun v H1 => Q v H1 ∨ ∃ d u, v = .ref d ∧ H1 d = some u ∧ Mut (some u) ∧ ∀ od, Q v (upd H1 d (.frz od u))
theorem pe_iceP {t : TE} (h : PE X e t) : PE X e (tIceP t) := ⟨fun pins s σ H Q I q => thn (h.run pins s σ H _ I q) fun v s1 ⟨x, H1, I1, r, q1⟩ => by
  rcases q1 with q1 | ⟨d, u, ev, hd, mu, q1⟩
  · exact ⟨x, H1, I1, r, q1⟩
  · obtain ⟨od, I2⟩ := I1.lock hd mu
    exact ⟨x, _, I2, r, q1 od⟩⟩
theorem qe_ice (h : QE X W e we) : QE X W e (wIce we) := PE.imp (pe_iceP h) fun σ H Q ⟨p, σd, l, Qd, Ed, hH, R, hw, k, lk⟩ => by
  subst hH
  refine cE_ok R hw lk fun x l1 v p1 e1 R1 r1 q1 => ?_
  cases x with
  | d x => exact .inl (k _ _ _ _ e1 R1 r1 q1)
  | exc _ _ _ _ => exact .inl (k _ _ _ _ e1 R1 r1 q1)
  | loc n =>
    obtain ⟨a, h1, rfl⟩ := r1
    unfold kIce at q1
    dsimp only at q1
    cases e : l1[n]? with
    | none => rw [e] at q1; exact q1.elim
    | some c =>
      rw [e] at q1
      cases c with
      | lst xs =>
        have q : Qd (.d (.lst xs)) (l1.set n (.frz xs)) := q1
        obtain ⟨c1, r2⟩ := Cells.ice R1.wf R1.ce h1 e
        have hr := List.mem_of_getElem? h1
        exact .inl (k (.d (.lst xs)) _ _ (p1.ice a) (e1.trans (ext_ice hr)) (R1.ext (ext_ice hr) (wf_ice R1.wf hr) c1) r2 q)
      | frz xs =>
        have q : Qd (.d (.lst xs)) l1 := q1
        obtain ⟨b, h2, vs, h3, h4⟩ := R1.ce.2 n _ e
        rw [h1] at h2
        cases h2
        exact .inl (k (.d (.lst xs)) _ _ p1 e1 R1 (show RP X.K p1 (.d (.lst xs)) (.ref a) from RD.lst h3 h4) q)
      | dk kvs =>
        have hr := List.mem_of_getElem? h1
        obtain ⟨b, h2, nf, vs, h3, h4⟩ := R1.ce.2 n _ e
        rw [h1] at h2
        cases h2
        have ht : ∀ vs, p1.H a ≠ some (.tup vs) := fun _ z => by rw [h3] at z; cases z
        refine .inr ⟨a, _, rfl, h3, True.intro, fun od => ?_⟩
        have rx : RD X.K (p1.lck a (.frz od (.dK ((kvs.map (·.1)).zip vs)))) (.dk (kvs.map (·.1)) (kvs.map (·.2))) (.ref a) := RD.dk (.inr rfl) upd_same (by simp) (h4.mono (ext_lck hr nf ht).hf)
        exact k _ _ _ (p1.lck a _) (e1.trans (ext_lck hr nf ht)) (R1.ext (ext_lck hr nf ht) (wf_lck R1.wf) (Cells.lck (c := .fz _) R1.wf R1.ce h1 e nf ht (show CellOk X.K _ (.fz _) a from rx))) (show RP X.K _ (.d _) _ from rx) q1
      | dt kvs =>
        have hr := List.mem_of_getElem? h1
        obtain ⟨b, h2, nf, vs, h3, h4⟩ := R1.ce.2 n _ e
        rw [h1] at h2
        cases h2
        have ht : ∀ vs, p1.H a ≠ some (.tup vs) := fun _ z => by rw [h3] at z; cases z
        refine .inr ⟨a, _, rfl, h3, True.intro, fun od => ?_⟩
        have rx : RD X.K (p1.lck a (.frz od (.dT ((kvs.map (·.1)).zip vs)))) (.dt (kvs.map (·.1)) (kvs.map (·.2))) (.ref a) := RD.dt (.inr rfl) upd_same (by simp) (h4.mono (ext_lck hr nf ht).hf)
        exact k _ _ _ (p1.lck a _) (e1.trans (ext_lck hr nf ht)) (R1.ext (ext_lck hr nf ht) (wf_lck R1.wf) (Cells.lck (c := .fz _) R1.wf R1.ce h1 e nf ht (show CellOk X.K _ (.fz _) a from rx))) (show RP X.K _ (.d _) _ from rx) q1
      | fz x =>
        obtain ⟨b, h2, h3⟩ := R1.ce.2 n _ e
        rw [h1] at h2
        cases h2
        exact .inl (k (.d x) _ _ p1 e1 R1 h3 q1)
      | own b0 xs =>
        have q : Qd (.d (.lst xs)) (l1.set n (.frz xs)) := q1
        obtain ⟨b, h2, rfl, nf, vs, h3, h4⟩ := R1.ce.2 n _ e
        rw [h1] at h2
        cases h2
        have hr := List.mem_of_getElem? h1
        have la : LstAt (p1.ice a) a vs := ⟨.inr rfl, h3⟩
        have c1 := Cells.iceL R1.wf R1.ce h1 e la (h4.mono (ext_ice hr).hf)
        exact .inl (k (.d (.lst xs)) _ _ (p1.ice a) (e1.trans (ext_ice hr)) (R1.ext (ext_ice hr) (wf_ice R1.wf hr) c1) (show RP X.K (p1.ice a) (.d (.lst xs)) (.ref a) from RD.lst la (h4.mono (ext_ice hr).hf)) q)
      | ins C ns xs =>
        have hr := List.mem_of_getElem? h1
        obtain ⟨b, h2, nf, dx, vs, h3, hl, h4⟩ := R1.ce.2 n _ e
        rw [h1] at h2
        cases h2
        have rx : RD X.K (p1.ice a) (.obj C ns xs) (.ref a) := RD.obj (.inr rfl) h3 (h4.mono (ext_ice hr).hf)
        exact .inl (k _ _ _ (p1.ice a) (e1.trans (ext_ice hr)) (R1.ext (ext_ice hr) (wf_ice R1.wf hr) (Cells.iceD R1.wf R1.ce h1 e rx)) (show RP X.K _ (.d _) _ from rx) q1)
      | dkc _ => exact q1.elim
      | dtc _ => exact q1.elim
      | lsc _ => exact q1.elim
end
section
variable {K : PySem.W.Frag}
/-! ### built-ins -/
def bLen (xs : List P) (l : LS) (Q : P → LS → Prop) : Prop := match xs with
  | [x] => match seqOf l x with
    | some ys => Q (.d (.int (ys.length : Int))) l
    | none => False
  | _ => False
theorem ref_len : RefCall K (fun xs H Q => ∃ p ys, xs = [V.ref p] ∧ (SqL K H p ys ∨ SqT K H p ys) ∧ Q (V.int ys.length) H) bLen := fun p l xs vs Qd Q w ce rx h k => by
  unfold bLen at h
  split at h
  · obtain ⟨v, rfl, r⟩ := rx.one
    split at h
    · rename_i ys hy
      obtain ⟨a, us, rfl, hs, hr⟩ := seqOf_ok ce r hy
      refine ⟨a, us, rfl, hs, ?_⟩
      rw [← hr.len]
      exact k.same w ce (d := .d _) (RD.int _) h
    · exact h.elim
  · exact h.elim
def bLenS (xs : List P) (l : LS) (Q : P → LS → Prop) : Prop := match xs with
  | [.d (.str z)] => z.length ≤ sizeLine ∧ Q (.d (.int (z.length : Int))) l
  | _ => False
theorem ref_lenS : RefCall K (fun xs H Q => ∃ z, xs = [V.str z] ∧ z.length ≤ sizeLine ∧ Q (V.int z.length) H) bLenS := fun p l xs vs Qd Q w ce rx h k => by
  unfold bLenS at h
  split at h
  · obtain ⟨v, rfl, r⟩ := rx.one
    cases r
    exact ⟨_, rfl, h.1, k.same w ce (d := .d _) (RD.int _) h.2⟩
  · exact h.elim
def bList (f : Fresh) (xs : List P) (l : LS) (Q : P → LS → Prop) : Prop := match xs with
  | [x] => match seqOf l x with
    | some ys => freshL f ys l Q
    | none => False
  | _ => False
theorem ref_list {f : Fresh} : RefCall K (fun xs H Q => ∃ p ys, xs = [V.ref p] ∧ (SqL K H p ys ∨ SqT K H p ys) ∧ ∀ l, H l = none → Q (.ref l) (upd H l (.lst ys))) (bList f) := fun p l xs vs Qd Q w ce rx h k => by
  unfold bList at h
  split at h
  · obtain ⟨v, rfl, r⟩ := rx.one
    split at h
    · rename_i ys hy
      obtain ⟨a, us, rfl, hs, hr⟩ := seqOf_ok ce r hy
      exact ⟨a, us, rfl, hs, k.fresh w ce hr f h⟩
    · exact h.elim
  · exact h.elim
def bTup (xs : List P) (l : LS) (Q : P → LS → Prop) : Prop := match xs with
  | [.d (.ktu ys)] => Q (.d (.ktu ys)) l
  | [.d (.tux ys)] => Q (.d (.tux ys)) l
  | [x] => match seqOf l x with
    | some ys => Q (.d (.tup ys)) l
    | none => False
  | _ => False
theorem ref_tuple : RefCall K (fun xs H Q => ∃ p ys, xs = [V.ref p] ∧ ((SqL K H p ys ∧ ∀ l, H l = none → Q (.ref l) (upd H l (.tup ys))) ∨ (SqT K H p ys ∧ Q (.ref p) H))) bTup := fun p l xs vs Qd Q w ce rx h k => by
  unfold bTup at h
  split at h
  · obtain ⟨v, rfl, r⟩ := rx.one
    cases (show RD K p (.ktu _) v from r) with
    | ktu h1 h2 => exact ⟨_, _, rfl, .inr ⟨seqT_empty h1, k.same w ce (d := .d _) (RD.ktu h1 h2) h⟩⟩
  · obtain ⟨v, rfl, r⟩ := rx.one
    cases (show RD K p (.tux _) v from r) with
    | tux hF h1 hn h2 => exact ⟨_, _, rfl, .inr ⟨.inl (.inr ⟨_, h1⟩), k.same w ce (d := .d _) (RD.tux hF h1 hn h2) h⟩⟩
  · rename_i x nt nx
    obtain ⟨v, rfl, r⟩ := rx.one
    split at h
    · rename_i ys hy
      cases x with
      | d x =>
        cases x with
        | ktu ys => exact absurd rfl (nt _)
        | tux ys => exact absurd rfl (nx _)
        | tup zs =>
          cases hy
          cases r with
          | tup h1 h2 => exact ⟨_, _, rfl, .inr ⟨h1.sq, k.same w ce (d := .d _) (RD.tup h1 h2) h⟩⟩
        | lst zs =>
          cases hy
          cases r with
          | lst h1 h2 => exact ⟨_, _, rfl, .inl ⟨LstAt.sq (K := K) h1, k.newT w ce h2 h⟩⟩
        | scr zs =>
          cases hy
          cases r with
          | scr h1 h2 => exact ⟨_, _, rfl, .inl ⟨h1.sq, k.newT w ce h2 h⟩⟩
        | _ => cases hy
      | loc n =>
        obtain ⟨a, us, rfl, h1, h2⟩ := lstOf_ok ce r (show lstOf l (.loc n) = some ys from hy)
        exact ⟨_, _, rfl, .inl ⟨.inl (.inl h1), k.newT w ce h2 h⟩⟩
      | exc _ _ _ _ => cases hy
    · exact h.elim
  · exact h.elim
/-- a list (not a tuple) of things of one form -/
def lisOf (l : LS) : P → Option (List D)
  | .d (.lst xs) => some xs
  | .d (.scr xs) => some xs
  | .loc n => lstOf l (.loc n)
  | _ => none
theorem lisOf_ok {p : Pt} {l : LS} {x : P} {v : V} {xs : List D} (ce : Cells K p l) (r : RP K p x v) (h : lisOf l x = some xs) : ∃ a vs, v = .ref a ∧ SqL K p.H a vs ∧ RDs K p xs vs := by
  cases x with
  | d x =>
    cases x with
    | lst ys =>
      cases h
      cases r with
      | lst h1 h2 => exact ⟨_, _, rfl, LstAt.sq (K := K) h1, h2⟩
    | scr ys =>
      cases h
      cases r with
      | scr h1 h2 => exact ⟨_, _, rfl, h1.sq, h2⟩
    | _ => cases h
  | loc n =>
    obtain ⟨a, vs, rfl, h1, h2⟩ := lstOf_ok ce r h
    exact ⟨a, vs, rfl, .inl (.inl h1), h2⟩
  | exc _ _ _ _ => cases h
def bSum (xs : List P) (l : LS) (Q : P → LS → Prop) : Prop := match xs with
  | [x] => ∃ ns : List Int, lisOf l x = some (ns.map .int) ∧ Q (.d (.int ns.sum)) l
  | _ => False
theorem ref_sum : RefCall K (rSum K) bSum := fun p l xs vs Qd Q w ce rx h k => by
  unfold bSum at h
  split at h
  · obtain ⟨v, rfl, r⟩ := rx.one
    obtain ⟨ns, h1, h2⟩ := h
    obtain ⟨a, us, rfl, hs, hr⟩ := lisOf_ok ce r h1
    rw [hr.ints] at hs
    exact ⟨a, ns, rfl, hs, k.same w ce (d := .d _) (RD.int _) h2⟩
  · exact h.elim
def bAny (xs : List P) (l : LS) (Q : P → LS → Prop) : Prop := match xs with
  | [x] => ∃ ns : List Bool, lisOf l x = some (ns.map .bl) ∧ Q (.d (.bl (ns.any id))) l
  | _ => False
theorem ref_any : RefCall K (rAny K) bAny := fun p l xs vs Qd Q w ce rx h k => by
  unfold bAny at h
  split at h
  · obtain ⟨v, rfl, r⟩ := rx.one
    obtain ⟨ns, h1, h2⟩ := h
    obtain ⟨a, us, rfl, hs, hr⟩ := lisOf_ok ce r h1
    rw [hr.bls] at hs
    exact ⟨a, ns, rfl, hs, k.same w ce (d := .d _) (RD.bl _) h2⟩
  · exact h.elim
def bAll (xs : List P) (l : LS) (Q : P → LS → Prop) : Prop := match xs with
  | [x] => ∃ ns : List Bool, lisOf l x = some (ns.map .bl) ∧ Q (.d (.bl (ns.all id))) l
  | _ => False
theorem ref_all : RefCall K (rAll K) bAll := fun p l xs vs Qd Q w ce rx h k => by
  unfold bAll at h
  split at h
  · obtain ⟨v, rfl, r⟩ := rx.one
    obtain ⟨ns, h1, h2⟩ := h
    obtain ⟨a, us, rfl, hs, hr⟩ := lisOf_ok ce r h1
    rw [hr.bls] at hs
    exact ⟨a, ns, rfl, hs, k.same w ce (d := .d _) (RD.bl _) h2⟩
  · exact h.elim
def bMax (xs : List P) (l : LS) (Q : P → LS → Prop) : Prop := match xs with
  | [x] => ∃ ns : List Int, lisOf l x = some (ns.map .int) ∧ 0 < ns.length ∧ ∀ m, m ∈ ns → (∀ y, y ∈ ns → y ≤ m) → Q (.d (.int m)) l
  | _ => False
theorem ref_max : RefCall K (rMax K) bMax := fun p l xs vs Qd Q w ce rx h k => by
  unfold bMax at h
  split at h
  · obtain ⟨v, rfl, r⟩ := rx.one
    obtain ⟨ns, h1, h0, h2⟩ := h
    obtain ⟨a, us, rfl, hs, hr⟩ := lisOf_ok ce r h1
    rw [hr.ints] at hs
    exact ⟨a, ns, rfl, hs, h0, fun m hm hy => k.same w ce (d := .d _) (RD.int _) (h2 m hm hy)⟩
  · exact h.elim
def bMin (xs : List P) (l : LS) (Q : P → LS → Prop) : Prop := match xs with
  | [x] => ∃ ns : List Int, lisOf l x = some (ns.map .int) ∧ 0 < ns.length ∧ ∀ m, m ∈ ns → (∀ y, y ∈ ns → m ≤ y) → Q (.d (.int m)) l
  | _ => False
theorem ref_min : RefCall K (rMin K) bMin := fun p l xs vs Qd Q w ce rx h k => by
  unfold bMin at h
  split at h
  · obtain ⟨v, rfl, r⟩ := rx.one
    obtain ⟨ns, h1, h0, h2⟩ := h
    obtain ⟨a, us, rfl, hs, hr⟩ := lisOf_ok ce r h1
    rw [hr.ints] at hs
    exact ⟨a, ns, rfl, hs, h0, fun m hm hy => k.same w ce (d := .d _) (RD.int _) (h2 m hm hy)⟩
  · exact h.elim
def bInt2 (g : Int → Int → Int) (xs : List P) (l : LS) (Q : P → LS → Prop) : Prop := match xs with
  | [.d (.int i), .d (.int j)] => Q (.d (.int (g i j))) l
  | _ => False
theorem ref_int2 {g : Int → Int → Int} : RefCall K (fun xs H Q => ∃ i j, xs = [V.int i, V.int j] ∧ Q (.int (g i j)) H) (bInt2 g) := fun p l xs vs Qd Q w ce rx h k => by
  unfold bInt2 at h
  split at h
  · obtain ⟨v, u, rfl, r, r2⟩ := rx.two
    cases r; cases r2
    exact ⟨_, _, rfl, k.same w ce (d := .d _) (RD.int _) h⟩
  · exact h.elim
def bInt1 (g : Int → Int) (xs : List P) (l : LS) (Q : P → LS → Prop) : Prop := match xs with
  | [.d (.int i)] => Q (.d (.int (g i))) l
  | _ => False
theorem ref_abs : RefCall K (fun xs H Q => ∃ i, xs = [V.int i] ∧ Q (.int (if i < 0 then -i else i)) H) (bInt1 fun i => if i < 0 then -i else i) := fun p l xs vs Qd Q w ce rx h k => by
  unfold bInt1 at h
  split at h
  · obtain ⟨v, rfl, r⟩ := rx.one
    cases r
    exact ⟨_, rfl, k.same w ce (d := .d _) (RD.int _) h⟩
  · exact h.elim
theorem ref_int : RefCall K (fun xs H Q => (∃ i, xs = [V.int i] ∧ Q (.int i) H) ∨ ∃ k, xs = [.bl k] ∧ Q (.int (if k then 1 else 0)) H) (bInt1 fun i => i) := fun p l xs vs Qd Q w ce rx h k => by
  unfold bInt1 at h
  split at h
  · obtain ⟨v, rfl, r⟩ := rx.one
    cases r
    exact .inl ⟨_, rfl, k.same w ce (d := .d _) (RD.int _) h⟩
  · exact h.elim
def bStr (xs : List P) (l : LS) (Q : P → LS → Prop) : Prop := match xs with
  | [.d (.int i)] => i.natAbs.log2 < 1920 ∧ Q (.d (.str (toString i))) l
  | _ => False
theorem ref_str : RefCall K (fun xs H Q => ∃ i : Int, xs = [V.int i] ∧ i.natAbs.log2 < 1920 ∧ Q (.str (toString i)) H) bStr := fun p l xs vs Qd Q w ce rx h k => by
  unfold bStr at h
  split at h
  · obtain ⟨v, rfl, r⟩ := rx.one
    cases r
    exact ⟨_, rfl, h.1, k.same w ce (d := .d _) (RD.str _) h.2⟩
  · exact h.elim
/-- the built-in type of a thing -/
def tyOf : P → Option String
  | .d .non => some "NoneType"
  | .d (.bl _) => some "bool"
  | .d (.int _) => some "int"
  | .d (.str _) => some "str"
  | .d (.tup _) => some "tuple"
  | .d (.lst _) => some "list"
  | .d (.ktu _) => some "tuple"
  | .loc _ => some "list"
  | _ => none
theorem tupAt_ty {p : Pt} {a : Addr} {vs : List V} (h : TupAt K p a vs) : TyX K p.H (.ref a) (.type "tuple") := by
  exact .base (.tup h)
theorem ktuAt_ty {H : Hp} {a : Addr} {vs : List V} (h : SqT K (fun _ => none) a vs) : TyX K H (.ref a) (.type "tuple") := by
  rcases h with (h | ⟨o, h⟩) | ⟨o, its, n, h1, h2, h3⟩
  · cases h
  · cases h
  · exact .kTuple h1 h2
theorem tyOf_ok {p : Pt} {l : LS} {x : P} {v : V} {n : String} (ce : Cells K p l) (r : RP K p x v) (h : tyOf x = some n) (hl : ∀ m, x = .loc m → (lstOf l x).isSome = true) : TyX K p.H v (.type n) := by
  cases x with
  | d x =>
    cases r with
    | non => cases h; exact .base .non
    | bl _ => cases h; exact .base (.bl _)
    | int _ => cases h; exact .base (.int _)
    | str _ => cases h; exact .base (.str _)
    | tup h1 _ => cases h; exact tupAt_ty h1
    | lst h1 _ => cases h; exact .base (.lst h1.2)
    | ty _ => cases h
    | scr _ _ => cases h
    | obj _ _ _ => cases h
    | dk _ _ _ _ => cases h
    | dt _ _ _ _ => cases h
    | ktu h1 _ => cases h; exact ktuAt_ty h1
    | tux _ _ _ _ => cases h
  | loc m =>
    cases h
    obtain ⟨xs, e⟩ := Option.isSome_iff_exists.mp (hl m rfl)
    obtain ⟨a, vs, rfl, h1, _⟩ := lstOf_ok ce r e
    exact .base (.lst h1)
  | exc _ _ _ _ => cases h
/-- isinstance(x, T), T a built-in type -/
def isT (n c : String) : Option Bool :=
  if n = c then (if n ∈ ["NoneType", "bool", "int", "str", "tuple", "list"] then some true else none)
  else if n = "bool" ∧ c = "int" then some true
  else if n ∈ ["NoneType", "bool", "int", "str", "tuple", "list"] ∧ c ∈ ["bool", "int", "str", "tuple", "list", "dict"] then some false else none
theorem isT_ok {n c : String} {b : Bool} (h : isT n c = some b) : kitB n c = some b := by
  unfold isT at h
  have all1 : ∀ n ∈ ["NoneType", "bool", "int", "str", "tuple", "list"], kitB n n = some true := by decide +kernel
  have all2 : ∀ n ∈ ["NoneType", "bool", "int", "str", "tuple", "list"], ∀ c ∈ ["bool", "int", "str", "tuple", "list", "dict"], n ≠ c → ¬ (n = "bool" ∧ c = "int") → kitB n c = some false := by decide +kernel
  split at h
  · rename_i e
    subst e
    split at h
    · rename_i m
      cases h
      exact all1 n m
    · cases h
  · rename_i ne
    split at h
    · rename_i m
      cases h
      obtain ⟨rfl, rfl⟩ := m
      decide +kernel
    · rename_i nb
      split at h
      · rename_i m
        cases h
        exact all2 n m.1 c m.2 ne nb
      · cases h
def bIsi (xs : List P) (l : LS) (Q : P → LS → Prop) : Prop := match xs with
  | [x, .d (.ty c)] => match tyOf x with
    | some n => match x with
      | .loc m => (lstOf l (.loc m)).isSome = true ∧ match isT n c with
        | some b => Q (.d (.bl b)) l
        | none => False
      | _ => match isT n c with
        | some b => Q (.d (.bl b)) l
        | none => False
    | none => False
  | _ => False
theorem ref_isi : RefCall K (rIsi K) bIsi := fun p l xs vs Qd Q w ce rx h k => by
  unfold bIsi at h
  split at h
  · rename_i x c
    obtain ⟨v, u, rfl, r, r2⟩ := rx.two
    cases r2
    cases e : tyOf x with
    | none => rw [e] at h; exact h.elim
    | some n =>
      rw [e] at h
      have fin : (∀ m, x = .loc m → (lstOf l x).isSome = true) → (match isT n c with | some b => Qd (.d (.bl b)) l | none => False) → rIsi K [v, .ty c] p.H Q := fun hl hq => by
        split at hq
        · rename_i b eb
          exact ⟨v, .ty c, .type n, .type c, b, rfl, .ty c, tyOf_ok ce r e hl, kit_ty (isT_ok eb), k.same w ce (d := .d _) (RD.bl _) hq⟩
        · exact hq.elim
      cases x with
      | d x => exact fin (fun m z => nomatch z) h
      | loc m => exact fin (fun m' z => by cases z; exact h.1) h.2
      | exc _ _ _ _ => exact fin (fun m z => nomatch z) h
  · exact h.elim
end
/-! ### methods of lists -/
section
variable {X : Cx} {W : WX} {a b e o : Expr} {es : List Expr} {wa wb we wo : WE} {ws : WA} {pos : Pos}
def RefMt (K : PySem.W.Frag) (r : V → List V → Hp → VK → Prop) (rd : ODm) : Prop := ∀ (p : Pt) (l : LS) (x : P) (vx : V) (xs : List P) (vs : List V) (Qd : P → LS → Prop) (Q : VK), WF p → Cells K p l → RP K p x vx → RPs K p xs vs → rd x xs l Qd → After K p Qd Q → r vx vs p.H Q
theorem RPs.mono {K : PySem.W.Frag} {p p' : Pt} (e : Ext p p') {xs : List P} {vs : List V} (h : RPs K p xs vs) : RPs K p' xs vs := Paired.mapP h fun _ _ r => r.mono e
def kBM2 (rd : ODm) (x : P) (Q : P → LS → Prop) (xs : List P) (l : LS) : Prop := rd x xs l Q
def kBM1 (rd : ODm) (ws : WA) (σ : SS) (Q : P → LS → Prop) (E : EK) (x : P) (l : LS) : Prop := (lisOf l x).isSome = true ∧ ws σ l (kBM2 rd x Q) E
def wBM (rd : ODm) (wo : WE) (ws : WA) (σ : SS) (l : LS) (Q : P → LS → Prop) (E : EK) : Prop := wo σ l (kBM1 rd ws σ Q E) E
def kBM0 (rd : ODm) (Q : P → LS → Prop) (x : P) (l : LS) : Prop := (lisOf l x).isSome = true ∧ rd x [] l Q
def wBM0 (rd : ODm) (wo : WE) (σ : SS) (l : LS) (Q : P → LS → Prop) (E : EK) : Prop := wo σ l (kBM0 rd Q) E
theorem lis_ty {K : PySem.W.Frag} {p : Pt} {l : LS} {x : P} {v : V} (ce : Cells K p l) (r : RP K p x v) (h : (lisOf l x).isSome = true) : tyV K "list" v p.H := by
  obtain ⟨xs, e⟩ := Option.isSome_iff_exists.mp h
  obtain ⟨a, vs, rfl, hs, _⟩ := lisOf_ok ce r e
  exact .inl ⟨rfl, vs, hs⟩
theorem qe_bm {name : Str} {id : String} {r : V → List V → Hp → VK → Prop} {rd : ODm} {apos cpos : Pos} (slot : Slot "list" name id) (hty : typeOf (.builtin id) = pure (.type "method_descriptor")) (hm : MtR X id r) (rr : RefMt X.K r rd) (ho : QE X W o wo) (ha : QA X W (e :: es) ws)
    (hbase : attributeBase o name X.env (eval o X.env) = eval o X.env := by rfl)
    (hp : ((backTo cpos (starEach (e :: es) X.env)).all (fun x => !x.1) && (backToKw cpos (keywordEach [] X.env)).all (fun x => x.1.isSome) && decide ((e :: es).length + ([] : List Keyword).length + (if ([] : List Keyword).isEmpty = true then 0 else 1) < 30)) = true := by rfl)
    (hline : (apos.endLine == cpos.line) = true := by rfl) (hs : starEach (e :: es) X.env = (false, eval e X.env) :: starEach es X.env := by rfl) (hpl : (backTo cpos (starEach es X.env)).any (·.1) = false := by rfl) :
    QE X W (.Call (.Attribute o name apos) (e :: es) [] cpos) (wBM rd wo ws) := PE.imp (pe_bm PySem.F.plainAttrs_list slot hty hm ho ha hbase hp hline hs hpl) fun σ H Q ⟨p, σd, l, Qd, Ed, hH, R, hw, k, lk⟩ => by
  subst hH
  exact cE_ok R hw lk fun x l1 v p1 e1 R1 r1 q1 => ⟨lis_ty R1.ce r1 q1.1, cA_ok R1 q1.2 (lk.mono e1) fun xs l2 vs p2 e2 R2 r2 q2 =>
    rr p2 l2 x v xs vs _ _ R2.wf R2.ce (r1.mono e2) r2 q2 fun d l' v' p' e' w' c' r' q' => k d l' v' p' ((e1.trans e2).trans e') (R2.ext e' w' c') r' q'⟩
theorem qe_bm0 {name : Str} {id : String} {r : V → List V → Hp → VK → Prop} {rd : ODm} {apos cpos : Pos} (slot : Slot "list" name id) (hty : typeOf (.builtin id) = pure (.type "method_descriptor")) (hm : MtR X id r) (rr : RefMt X.K r rd) (ho : QE X W o wo)
    (hbase : attributeBase o name X.env (eval o X.env) = eval o X.env := by rfl) (hline : (apos.endLine == cpos.line) = true := by rfl) : QE X W (.Call (.Attribute o name apos) [] [] cpos) (wBM0 rd wo) := PE.imp (pe_bm0 PySem.F.plainAttrs_list slot hty hm ho hbase hline) fun σ H Q ⟨p, σd, l, Qd, Ed, hH, R, hw, k, lk⟩ => by
  subst hH
  exact cE_ok R hw lk fun x l1 v p1 e1 R1 r1 q1 => ⟨lis_ty R1.ce r1 q1.1, rr p1 l1 x v [] [] _ _ R1.wf R1.ce r1 .nil q1.2 fun d l' v' p' e' w' c' r' q' => k d l' v' p' (e1.trans e') (R1.ext e' w' c') r' q'⟩
end
section
variable {K : PySem.W.Frag}
/-- a cell is written -/
theorem put_ok {p : Pt} {l : LS} {n : Nat} {v : V} {xs ys : List D} {vs us : List V} (w : WF p) (ce : Cells K p l) (r : RP K p (.loc n) v) (e : l[n]? = some (.lst xs)) : ∃ a, v = .ref a ∧ ∃ vs, p.H a = some (.lst vs) ∧ RDs K p xs vs ∧
    ∀ ys us, RDs K p ys us → Ext p (p.put a (.lst us)) ∧ WF (p.put a (.lst us)) ∧ Cells K (p.put a (.lst us)) (l.set n (.lst ys)) := by
  obtain ⟨a, h1, rfl⟩ := r
  obtain ⟨b, h2, nf, vs, h3, h4⟩ := ce.2 n _ e
  rw [h1] at h2
  cases h2
  have hr := List.mem_of_getElem? h1
  exact ⟨a, rfl, vs, h3, h4, fun ys us q => ⟨ext_put hr nf (fun _ z => by rw [h3] at z; cases z), wf_put w, Cells.put w ce h1 nf (fun _ z => by rw [h3] at z; cases z) ⟨nf, us, upd_same, q.mono (ext_put hr nf (fun _ z => by rw [h3] at z; cases z)).hf⟩⟩⟩
theorem putO_ok {p : Pt} {l : LS} {n : Nat} {v : V} {b0 : Addr} {xs : List D} (w : WF p) (ce : Cells K p l) (r : RP K p (.loc n) v) (e : l[n]? = some (.own b0 xs)) : ∃ a, v = .ref a ∧ ∃ vs, p.H a = some (.lst vs) ∧ RDs K p xs vs ∧
    ∀ ys us, RDs K p ys us → Ext p (p.put a (.lst us)) ∧ WF (p.put a (.lst us)) ∧ Cells K (p.put a (.lst us)) (l.set n (.own b0 ys)) := by
  obtain ⟨a, h1, rfl⟩ := r
  obtain ⟨b, h2, rfl, nf, vs, h3, h4⟩ := ce.2 n _ e
  rw [h1] at h2
  cases h2
  have hr := List.mem_of_getElem? h1
  exact ⟨a, rfl, vs, h3, h4, fun ys us q => ⟨ext_put hr nf (fun _ z => by rw [h3] at z; cases z), wf_put w, Cells.put w ce h1 nf (fun _ z => by rw [h3] at z; cases z) ⟨rfl, nf, us, upd_same, q.mono (ext_put hr nf (fun _ z => by rw [h3] at z; cases z)).hf⟩⟩⟩
def mAppend (x : P) (xs : List P) (l : LS) (Q : P → LS → Prop) : Prop := match x, xs with
  | .loc n, [.d y] => match l[n]? with
    | some (.lst ys) => ys.length < sizeLine ∧ Q (.d .non) (l.set n (.lst (ys ++ [y])))
    | some (.own b ys) => ys.length < sizeLine ∧ Q (.d .non) (l.set n (.own b (ys ++ [y])))
    | _ => False
  | _, _ => False
theorem ref_append : RefMt K rAppend mAppend := fun p l x vx xs vs Qd Q w ce rx rxs h k => by
  unfold mAppend at h
  split at h
  · rename_i n y
    obtain ⟨v, rfl, r⟩ := rxs.one
    split at h
    · rename_i ys hy
      obtain ⟨a, rfl, us, h3, h4, f⟩ := put_ok (ys := []) (us := []) (vs := []) w ce rx hy
      obtain ⟨e1, w1, c1⟩ := f (ys ++ [y]) (us ++ [v]) (h4.append (.cons r .nil))
      exact ⟨a, us, v, rfl, rfl, h3, by rw [← h4.len]; exact h.1, k (.d .non) _ _ _ e1 w1 c1 RD.non h.2⟩
    · rename_i b ys hy
      obtain ⟨a, rfl, us, h3, h4, f⟩ := putO_ok w ce rx hy
      obtain ⟨e1, w1, c1⟩ := f (ys ++ [y]) (us ++ [v]) (h4.append (.cons r .nil))
      exact ⟨a, us, v, rfl, rfl, h3, by rw [← h4.len]; exact h.1, k (.d .non) _ _ _ e1 w1 c1 RD.non h.2⟩
    · exact h.elim
  · exact h.elim
def mPop (x : P) (xs : List P) (l : LS) (Q : P → LS → Prop) : Prop := match x, xs with
  | .loc n, [] => match l[n]? with
    | some (.lst ys) => ∃ y, ys[ys.length - 1]? = some y ∧ Q (.d y) (l.set n (.lst ys.dropLast))
    | _ => False
  | _, _ => False
theorem ref_pop : RefMt K rPop mPop := fun p l x vx xs vs Qd Q w ce rx rxs h k => by
  unfold mPop at h
  split at h
  · rename_i n
    cases rxs
    split at h
    · rename_i ys hy
      obtain ⟨y, hy1, hy2⟩ := h
      obtain ⟨a, rfl, us, h3, h4, f⟩ := put_ok (ys := []) (us := []) (vs := []) w ce rx hy
      obtain ⟨e1, w1, c1⟩ := f ys.dropLast us.dropLast h4.dropLast
      obtain ⟨v, g1, g2⟩ := h4.get hy1
      exact ⟨a, us, v, rfl, rfl, h3, by rw [← h4.len]; exact g1, k (.d y) _ _ _ e1 w1 c1 (g2.mono e1.hf) hy2⟩
    · exact h.elim
  · exact h.elim
def mPopAt (x : P) (xs : List P) (l : LS) (Q : P → LS → Prop) : Prop := match x, xs with
  | .loc n, [.d (.int i)] => match l[n]? with
    | some (.lst ys) => -(2 ^ 63) ≤ i ∧ i < 2 ^ 63 ∧ ∃ k y, seqIndex? i ys.length = some k ∧ ys[k]? = some y ∧ Q (.d y) (l.set n (.lst (ys.eraseIdx k)))
    | _ => False
  | _, _ => False
theorem ref_popAt : RefMt K rPopAt mPopAt := fun p l x vx xs vs Qd Q w ce rx rxs h k => by
  unfold mPopAt at h
  split at h
  · rename_i n i
    obtain ⟨v, rfl, r⟩ := rxs.one
    cases r
    split at h
    · rename_i ys hy
      obtain ⟨b1, b2, j, y, hj, hy1, hy2⟩ := h
      obtain ⟨a, rfl, us, h3, h4, f⟩ := put_ok (ys := []) (us := []) (vs := []) w ce rx hy
      obtain ⟨e1, w1, c1⟩ := f (ys.eraseIdx j) (us.eraseIdx j) (h4.eraseIdx j)
      obtain ⟨v, g1, g2⟩ := h4.get hy1
      exact ⟨a, us, i, j, v, rfl, rfl, h3, b1, b2, by rw [← h4.len]; exact hj, g1, k (.d y) _ _ _ e1 w1 c1 (g2.mono e1.hf) hy2⟩
    · exact h.elim
  · exact h.elim
def mRev (x : P) (xs : List P) (l : LS) (Q : P → LS → Prop) : Prop := match x, xs with
  | .loc n, [] => match l[n]? with
    | some (.lst ys) => Q (.d .non) (l.set n (.lst ys.reverse))
    | _ => False
  | _, _ => False
theorem ref_reverse : RefMt K rReverse mRev := fun p l x vx xs vs Qd Q w ce rx rxs h k => by
  unfold mRev at h
  split at h
  · rename_i n
    cases rxs
    split at h
    · rename_i ys hy
      obtain ⟨a, rfl, us, h3, h4, f⟩ := put_ok (ys := []) (us := []) (vs := []) w ce rx hy
      obtain ⟨e1, w1, c1⟩ := f ys.reverse us.reverse h4.reverse
      exact ⟨a, us, rfl, rfl, h3, k (.d .non) _ _ _ e1 w1 c1 RD.non h⟩
    · exact h.elim
  · exact h.elim
def mExtend (x : P) (xs : List P) (l : LS) (Q : P → LS → Prop) : Prop := match x, xs with
  | .loc n, [y] => match l[n]? with
    | some (.lst ys) => match y with
      | .d (.tup zs) => ys.length + zs.length ≤ sizeLine ∧ Q (.d .non) (l.set n (.lst (ys ++ zs)))
      | y => match lstOf l y with
        | some zs => ys.length + zs.length ≤ sizeLine ∧ Q (.d .non) (l.set n (.lst (ys ++ zs)))
        | none => False
    | _ => False
  | _, _ => False
end
end QL
namespace PySem
open AutoSeq1
set_option maxRecDepth 8000 in
theorem list_extend_tup (l : Addr) (items : Array Value) (n : Nat) (b : Addr) (items2 : Array Value) (n2 : Nat) (dd : Option Addr) (sl : Array (Option Value)) (hs0 : ¬(!items.isEmpty && Builtin.List.listTooLong (items.size + items2.size)) = true) (hs1 : items.size ≤ sizeLine) (hs2 : items.size + items2.size ≤ sizeLine + 1) :
    Meets (Builtin.«list.extend» ⟨[.ref l, .ref b], []⟩) (fun _ R s => s.heap.get? l = some { cls := .type "list", dict := none, data := .seq items n, slots := #[] } ∧ s.heap.get? b = some { cls := .type "tuple", dict := dd, data := .seq items2 n2, slots := sl } ∧ R (.ok (.ret Value.none)) { s with heap := s.heap.update l (Obj.mapSeq fun x => x ++ items2), toks := s.toks }) :=
  .of_wp fun prog w A R s h => by
    obtain ⟨hp, g, d, tk, os⟩ := s; obtain ⟨hl, hb, h⟩ := h; have f1 := idx_int; have f2 := sub_tuple_tuple; have f3 := sub_list_list; have f4 := sub_tuple_list; have f5 := sub_list_tuple;
    have hz' : (items ++ items2).size ≤ sizeLine + 1 := by rw [Array.size_append]; exact hs2
    wp_walk using (wpAny_updateSeq hl rfl (hz := hs1) (_hz' := hz')), wpAny_loadPart' hl, wpAny_loadPart' hb; exact ⟨_, rfl, h⟩
end PySem
namespace QL
open PySem L2
def rExtT (K : PySem.W.Frag) : V → List V → Hp → VK → Prop := fun x vs H Q => ∃ l b xs zs, x = .ref l ∧ vs = [.ref b] ∧ H l = some (.lst xs) ∧ SqT K H b zs ∧ xs.length + zs.length ≤ sizeLine ∧ Q .non (upd H l (.lst (xs ++ zs)))
theorem mt_extendT {X : Cx} : MtM X "list.extend" (rExtT X.K) := by
  intro pins s σ H x v vs u Q I rx rv h
  obtain ⟨l, b, xs, zs, rfl, rfl, hH, hB, hz, q⟩ := h
  cases rx
  obtain ⟨u, rfl, ru⟩ := rv.one
  cases ru
  obtain ⟨z, its, n, r, hl, e⟩ := I.lstM hH
  obtain ⟨its2, r2, ⟨o2, e2, hc2, n2, hd2⟩, hl2⟩ := I.tuple hB
  obtain ⟨c2, d2, dt2, sl2⟩ := o2
  dsimp only at hc2 hd2
  subst hc2; subst hd2
  have hx : xs.length = its.length := r.length
  have hy : zs.length = its2.length := r2.length
  have hsz : its.toArray.size + its2.toArray.size ≤ sizeLine := by rw [List.size_toArray, List.size_toArray]; omega
  have hlong : ¬ (!its.toArray.isEmpty && Builtin.List.listTooLong (its.toArray.size + its2.toArray.size)) = true := by
    rw [notLongL hsz, Bool.and_false]
    exact Bool.false_ne_true
  refine call_meets F.slot_list_extend ⟨_, e, rfl⟩ F.entry_list_extend (F.args_list_extend_2 _ _)
    (PySem.list_extend_tup l its.toArray n b its2.toArray n2 d2 sl2 hlong (by rw [List.size_toArray]; omega) (by omega)) ⟨e, e2, ?_⟩
  refine ⟨.non, _, I.lset (its' := its ++ its2) hH e (by simp) (r.append r2) ?_, rfl, q⟩
  rw [List.length_append]
  omega
theorem ref_extend {K : PySem.W.Frag} : RefMt K (fun x vs H Q => rExtend x vs H Q ∨ rExtT K x vs H Q) mExtend := fun p l x vx xs vs Qd Q w ce rx rxs h k => by
  unfold mExtend at h
  split at h
  · rename_i n y
    obtain ⟨v, rfl, r⟩ := rxs.one
    split at h
    · rename_i ys hy
      obtain ⟨a, rfl, us, h3, h4, f⟩ := put_ok (ys := []) (us := []) (vs := []) w ce rx hy
      split at h
      · rename_i zs
        cases r with
        | tup h1 r1 =>
          obtain ⟨e1, w1, c1⟩ := f _ _ (h4.append r1)
          exact .inr ⟨a, _, us, _, rfl, rfl, h3, h1.sq, by rw [← h4.len, ← r1.len]; exact h.1, k (.d .non) _ _ _ e1 w1 c1 RD.non h.2⟩
      · split at h
        · rename_i zs hz
          obtain ⟨b, ws, rfl, hb, rb⟩ := lstOf_ok ce r hz
          obtain ⟨e1, w1, c1⟩ := f _ _ (h4.append rb)
          exact .inl ⟨a, b, us, ws, rfl, rfl, h3, hb, by rw [← h4.len, ← rb.len]; exact h.1, k (.d .non) _ _ _ e1 w1 c1 RD.non h.2⟩
        · exact h.elim
    · exact h.elim
  · exact h.elim
theorem mt_ext {X : Cx} : MtR X "list.extend" (fun x vs H Q => rExtend x vs H Q ∨ rExtT X.K x vs H Q) := fun pins s σ H x xs v us Q I rx rv h => by
  rcases h with h | h
  · exact mt_extend pins s σ H x xs v us Q I rx rv h
  · exact mt_extendT pins s σ H x xs v us Q I rx rv h
/-! ### l[i] = v -/
section
variable {X : Cx} {W : WX} {o i : Expr} {wo wi : WE} {pos : Pos}
def noEx (_ : Ex) (_ : LS) : Prop := False
def kSub2 (d : P) (σ : SS) (x : P) (Q : SS → LS → Prop) (y : P) (l : LS) : Prop := match d, x, y with
  | .d v, .loc n, .d (.int k) => match l[n]? with
    | some (.lst ys) => ∃ j, ixN ys.length k = some j ∧ Q σ (l.set n (.lst (ys.set j v)))
    | _ => False
  | _, _, _ => False
def kSub1 (wi : WE) (d : P) (σ : SS) (Q : SS → LS → Prop) (x : P) (l : LS) : Prop := wi σ l (kSub2 d σ x Q) noEx
def gSubL (wo wi : WE) (d : P) (σ : SS) (l : LS) (Q : SS → LS → Prop) : Prop := wo σ l (kSub1 wi d σ Q) noEx
theorem LinkE.never {K : PySem.W.Frag} {p : Pt} {σ : St} {σd : SS} : LinkE K W p σ σd noEx := fun _ _ _ _ _ _ _ _ h => h.elim
theorem qg_subL (ho : QE X W o wo) (hi : QE X W i wi)
    (ha : ∀ v, assign (.Subscript o i pos) X.env v = (do
      let ov ← holding [v] (eval o X.env)
      let iv ← holding [v, ov] (eval i X.env)
      standAt pos
      holding [v, ov, iv] (setItem ov iv v)
      release [v, ov, iv] []) := by intro _; rfl) : QG X (.Subscript o i pos) (gSubL wo wi) := PG.imp (pg_sub ho hi set_list ha) fun v σ H Q ⟨p, σd, l, d, Qd, hH, R, r, hw, k⟩ => by
  subst hH
  refine cE_ok R hw LinkE.never fun x l1 vx p1 e1 R1 r1 q1 => cE_ok R1 q1 LinkE.never fun y l2 vy p2 e2 R2 r2 q2 => ?_
  unfold kSub2 at q2
  split at q2
  · rename_i z n j
    cases r2
    split at q2
    · rename_i ys hy
      obtain ⟨m, hm, q⟩ := q2
      obtain ⟨a, rfl, us, h3, h4, f⟩ := put_ok (ys := []) (us := []) (vs := []) R2.wf R2.ce (r1.mono e2) hy
      obtain ⟨e3, w3, c3⟩ := f _ _ (h4.set (RD.mono (e1.trans e2).hf r) m)
      exact ⟨a, us, j, m, rfl, rfl, h3, by rw [← h4.len]; exact hm, k (p2.put a _) σ σd _ ((e1.trans e2).trans e3) (R2.ext e3 w3 c3) q⟩
    · exact q2.elim
  · exact q2.elim
end
end QL
set_option Elab.async false
set_option linter.all false
set_option maxRecDepth 100000
set_option maxHeartbeats 4000000
/-! QL5: loops, comprehensions, defs and their calls. -/
namespace QL
open PySem L2

/-! ### what a loop walks -/
structure Items where
  xs : List D
  ok : LS → Prop
abbrev WI := SS → LS → (Items → LS → Prop) → EK → Prop
/-- a later point: what never changes stands, the cells are more -/
structure Lat (p p' : Pt) : Prop where
  hf : HF p p'
  pre : ∃ t, p'.rho = p.rho ++ t
theorem Ext.lat {p p' : Pt} (e : Ext p p') : Lat p p' := ⟨e.hf, e.pre⟩
theorem HF.trans {p p' p'' : Pt} (e : HF p p') (f : HF p' p'') : HF p p'' := ⟨fun a h => f.fm a (e.fm a h), fun b o h n => f.keepF b o (e.keepF b o h n) (e.fm b n), fun b vs h => f.tups b vs (e.tups b vs h)⟩
theorem Lat.trans {p p' p'' : Pt} (e : Lat p p') (f : Lat p' p'') : Lat p p'' := by
  obtain ⟨t, ht⟩ := e.pre
  obtain ⟨u, hu⟩ := f.pre
  exact ⟨e.hf.trans f.hf, t ++ u, by rw [hu, ht, List.append_assoc]⟩
/-- at each later point the iterator gives the items one by one -/
def ItOk (K : PySem.W.Frag) (p : Pt) (J : It) (I : Items) : Prop := ∀ p2 l2, Lat p p2 → WF p2 → Cells K p2 l2 → I.ok l2 → ∀ i : Nat,
  (I.xs.length ≤ i → J.stop i p2.H) ∧ (i < I.xs.length → J.go i p2.H) ∧
  (∀ x H' d, I.xs[i]? = some d → J.yld i p2.H x H' → ∃ p3, p3.H = H' ∧ Ext p2 p3 ∧ WF p3 ∧ Cells K p3 l2 ∧ RD K p3 d x)
def cI (K : PySem.W.Frag) (W : WX) (w : WI) : TI := fun σ H R => ∃ (p : Pt) (σd : SS) (l : LS) (Rd : Items → LS → Prop) (Ed : EK), p.H = H ∧ Rel K p σ σd l ∧ w σd l Rd Ed ∧
  (∀ I l' J p', Ext p p' → Rel K p' σ σd l' → ItOk K p' J I → Rd I l' → R J p'.H) ∧ LinkE K W p σ σd Ed
def QI (X : Cx) (W : WX) (tg e : Expr) (w : WI) : Prop := PI X tg e (cI X.K W w)
theorem PI.imp {X : Cx} {tg e : Expr} {t t' : TI} (h : PI X tg e t) (k : ∀ σ H Q, t' σ H Q → t σ H Q) : PI X tg e t' := ⟨fun pins s σ H R I q => h.run pins s σ H R I (k σ H R q)⟩
theorem cI_ok {K : PySem.W.Frag} {W : WX} {p : Pt} {σ : St} {σd : SS} {l : LS} {w : WI} {R : It → Hp → Prop} {Rd : Items → LS → Prop} {Ed : EK} (Rr : Rel K p σ σd l) (hw : w σd l Rd Ed) (lk : LinkE K W p σ σd Ed)
    (k : ∀ I l' J p', Ext p p' → Rel K p' σ σd l' → ItOk K p' J I → Rd I l' → R J p'.H) : cI K W w σ p.H R := ⟨p, σd, l, Rd, Ed, rfl, Rr, hw, k, lk⟩

theorem sqL_mono {K : PySem.W.Frag} {p p' : Pt} {a : Addr} {vs : List V} (e : Ext p p') (h : (p.F a ∧ Rd p.H a (.lst vs)) ∨ SqL K (fun _ => none) a vs) : SqL K p'.H a vs := (ScrAt.mono (K := K) e.hf h).sq
section
variable {X : Cx} {W : WX} {tg e : Expr} {we : WE} {ws : WA} {pos : Pos}
/-- over a list -/
def okAll (_ : LS) : Prop := True
def okOwn (n : Nat) (b : Addr) (xs : List D) (l : LS) : Prop := l[n]? = some (.own b xs)
def okCell (n : Nat) (xs : List D) (l : LS) : Prop := l[n]? = some (.lst xs)
def kLst (R : Items → LS → Prop) (x : P) (l : LS) : Prop := match x with
  | .d (.lst xs) => R ⟨xs, okAll⟩ l
  | .d (.scr xs) => R ⟨xs, okAll⟩ l
  | .loc n => match l[n]? with
    | some (.lst xs) => R ⟨xs, okCell n xs⟩ l
    | some (.frz xs) => R ⟨xs, okAll⟩ l
    | some (.own b xs) => R ⟨xs, okOwn n b xs⟩ l
    | _ => False
  | _ => False
def iLst (we : WE) (σ : SS) (l : LS) (R : Items → LS → Prop) (E : EK) : Prop := we σ l (kLst R) E
theorem it_list {K : PySem.W.Frag} {p : Pt} {a : Addr} {xs : List D} {vs : List V} {ok : LS → Prop} (hr : RDs K p xs vs) (h : ∀ p2 l2, Lat p p2 → WF p2 → Cells K p2 l2 → ok l2 → ∃ us, SqL K p2.H a us ∧ RDs K p2 xs us) : ItOk K p (Itl K a) ⟨xs, ok⟩ := fun p2 l2 e w c o i => by
  obtain ⟨us, h1, h2⟩ := h p2 l2 e w c o
  refine ⟨fun hi => ⟨us, h1, by rw [← h2.len]; exact hi⟩, fun hi => ?_, fun x H' d hd hy => ?_⟩
  · obtain ⟨v, g1, _⟩ := h2.get (List.getElem?_eq_getElem hi)
    exact ⟨us, v, h1, g1⟩
  · obtain ⟨v, g1, g2⟩ := h2.get hd
    obtain ⟨hH, hv⟩ := hy
    subst hH
    have e1 := hv us h1
    rw [g1] at e1
    cases e1
    exact ⟨p2, rfl, Ext.refl _, w, c, g2⟩
theorem qi_list (hl : QE X W e we) (hi : PI X tg e (iList X.K (cE X.K W we))) : QI X W tg e (iLst we) := PI.imp hi fun σ H R ⟨p, σd, l, Rd, Ed, hH, R0, hw, k, lk⟩ => by
  subst hH
  refine cE_ok R0 hw lk fun x l1 v p1 e1 R1 r1 q1 => ?_
  cases x with
  | d x =>
    cases x with
    | lst xs =>
      cases r1 with
      | lst h1 h2 => exact ⟨_, rfl, ⟨_, LstAt.sq (K := X.K) h1⟩, k ⟨xs, okAll⟩ l1 _ p1 e1 R1 (it_list h2 fun p2 l2 e2 w2 c2 _ => ⟨_, LstAt.sq (K := X.K) (h1.mono e2.hf), h2.mono e2.hf⟩) q1⟩
    | scr xs =>
      cases r1 with
      | scr h1 h2 => exact ⟨_, rfl, ⟨_, h1.sq⟩, k ⟨xs, okAll⟩ l1 _ p1 e1 R1 (it_list h2 fun p2 l2 e2 w2 c2 _ => ⟨_, (h1.mono e2.hf).sq, h2.mono e2.hf⟩) q1⟩
    | _ => exact q1.elim
  | loc n =>
    obtain ⟨a, h1, rfl⟩ := r1
    unfold kLst at q1
    dsimp only at q1
    cases ee : l1[n]? with
    | none => rw [ee] at q1; exact q1.elim
    | some c =>
      rw [ee] at q1
      obtain ⟨b, h2, h3⟩ := R1.ce.2 n c ee
      rw [h1] at h2
      cases h2
      cases c with
      | lst xs =>
        obtain ⟨nf, vs, h4, h5⟩ := h3
        refine ⟨a, rfl, ⟨vs, .inl (.inl h4)⟩, k ⟨xs, _⟩ l1 _ p1 e1 R1 (it_list h5 fun p2 l2 e2 w2 c2 o2 => ?_) q1⟩
        obtain ⟨b, g1, g2, us, g3, g4⟩ := c2.2 n _ o2
        obtain ⟨t, ht⟩ := e2.pre
        rw [ht, List.getElem?_append_left (List.getElem?_eq_some_iff.mp h1).1, h1] at g1
        cases g1
        exact ⟨us, .inl (.inl g3), g4⟩
      | frz xs =>
        obtain ⟨vs, h4, h5⟩ := h3
        exact ⟨a, rfl, ⟨vs, LstAt.sq (K := X.K) h4⟩, k ⟨xs, okAll⟩ l1 _ p1 e1 R1 (it_list h5 fun p2 l2 e2 w2 c2 _ => ⟨_, LstAt.sq (K := X.K) (h4.mono e2.hf), h5.mono e2.hf⟩) q1⟩
      | dk _ => exact q1.elim
      | dt _ => exact q1.elim
      | fz _ => exact q1.elim
      | own b0 xs =>
        obtain ⟨_, nf, vs, h4, h5⟩ := h3
        refine ⟨a, rfl, ⟨vs, .inl (.inl h4)⟩, k ⟨xs, _⟩ l1 _ p1 e1 R1 (it_list h5 fun p2 l2 e2 w2 c2 o2 => ?_) q1⟩
        obtain ⟨b, g1, _, g2, us, g3, g4⟩ := c2.2 n _ o2
        obtain ⟨t, ht⟩ := e2.pre
        rw [ht, List.getElem?_append_left (List.getElem?_eq_some_iff.mp h1).1, h1] at g1
        cases g1
        exact ⟨us, .inl (.inl g3), g4⟩
      | dkc _ => exact q1.elim
      | dtc _ => exact q1.elim
      | lsc _ => exact q1.elim
      | ins _ _ _ => exact q1.elim
  | exc _ _ _ _ => exact q1.elim
def kTp (R : Items → LS → Prop) (x : P) (l : LS) : Prop := match x with
  | .d (.tup xs) => R ⟨xs, okAll⟩ l
  | .d (.ktu xs) => R ⟨xs, okAll⟩ l
  | .d (.tux xs) => R ⟨xs, okAll⟩ l
  | _ => False
def iTp (we : WE) (σ : SS) (l : LS) (R : Items → LS → Prop) (E : EK) : Prop := we σ l (kTp R) E
theorem qi_tup (hi : PI X tg e (iTup X.K (cE X.K W we))) : QI X W tg e (iTp we) := PI.imp hi fun σ H R ⟨p, σd, l, Rd, Ed, hH, R0, hw, k, lk⟩ => by
  subst hH
  refine cE_ok R0 hw lk fun x l1 v p1 e1 R1 r1 q1 => ?_
  cases x with
  | d x =>
    cases x with
    | tup xs =>
      cases r1 with
      | @tup a _ vs h1 h2 =>
        refine ⟨_, rfl, ⟨_, h1.sq⟩, k ⟨xs, okAll⟩ l1 _ p1 e1 R1 (fun p2 l2 e2 w2 c2 _ i => ?_) q1⟩
        have g1 := (h1.mono e2.hf).sq
        have g2 := h2.mono e2.hf
        refine ⟨fun hi => ⟨vs, g1, by rw [← g2.len]; exact hi⟩, fun hi => ?_, fun x H' d hd hy => ?_⟩
        · obtain ⟨v, z1, _⟩ := g2.get (List.getElem?_eq_getElem hi)
          exact ⟨vs, v, g1, z1⟩
        · obtain ⟨v, z1, z2⟩ := g2.get hd
          obtain ⟨hH, hv⟩ := hy
          subst hH
          have e1 := hv vs g1
          rw [z1] at e1
          cases e1
          exact ⟨p2, rfl, Ext.refl _, w2, c2, z2⟩
    | ktu xs =>
      cases r1 with
      | @ktu a _ vs h1 h2 =>
        refine ⟨_, rfl, ⟨_, seqT_empty h1⟩, k ⟨xs, okAll⟩ l1 _ p1 e1 R1 (fun p2 l2 e2 w2 c2 _ i => ?_) q1⟩
        have g1 : SqT X.K p2.H a vs := seqT_empty h1
        have g2 := h2.mono e2.hf
        refine ⟨fun hi => ⟨vs, g1, by rw [← g2.len]; exact hi⟩, fun hi => ?_, fun x H' d hd hy => ?_⟩
        · obtain ⟨v, z1, _⟩ := g2.get (List.getElem?_eq_getElem hi)
          exact ⟨vs, v, g1, z1⟩
        · obtain ⟨v, z1, z2⟩ := g2.get hd
          obtain ⟨hH, hv⟩ := hy
          subst hH
          have e1 := hv vs g1
          rw [z1] at e1
          cases e1
          exact ⟨p2, rfl, Ext.refl _, w2, c2, z2⟩
    | tux xs =>
      cases r1 with
      | @tux a ob _ vs hF hx hn h2 =>
        refine ⟨_, rfl, ⟨_, .inl (.inr ⟨_, hx⟩)⟩, k ⟨xs, okAll⟩ l1 _ p1 e1 R1 (fun p2 l2 e2 w2 c2 _ i => ?_) q1⟩
        have g1 : SqT X.K p2.H a vs := .inl (.inr ⟨_, e2.hf.keepF _ _ hx hF⟩)
        have g2 := h2.mono e2.hf
        refine ⟨fun hi => ⟨vs, g1, by rw [← g2.len]; exact hi⟩, fun hi => ?_, fun x H' d hd hy => ?_⟩
        · obtain ⟨v, z1, _⟩ := g2.get (List.getElem?_eq_getElem hi)
          exact ⟨vs, v, g1, z1⟩
        · obtain ⟨v, z1, z2⟩ := g2.get hd
          obtain ⟨hH, hv⟩ := hy
          subst hH
          have e1 := hv vs g1
          rw [z1] at e1
          cases e1
          exact ⟨p2, rfl, Ext.refl _, w2, c2, z2⟩
    | _ => exact q1.elim
  | _ => exact q1.elim
def rangeD (lo : Int) (n : Nat) : List D := (List.range n).map fun i => D.int (lo + (i : Nat))
theorem rangeD_len {lo : Int} {n : Nat} : (rangeD lo n).length = n := by simp [rangeD]
theorem rangeD_get {lo : Int} {n i : Nat} {d : D} (h : (rangeD lo n)[i]? = some d) : i < n ∧ d = .int (lo + (i : Nat)) := by
  unfold rangeD at h
  rw [List.getElem?_map] at h
  by_cases hi : i < n
  · rw [List.getElem?_range hi] at h
    exact ⟨hi, by simpa using h.symm⟩
  · rw [List.getElem?_eq_none (by simpa using hi)] at h
    cases h
theorem it_range {K : PySem.W.Frag} {p : Pt} {lo : Int} {n : Nat} : ItOk K p (Itr lo n) ⟨rangeD lo n, okAll⟩ := fun p2 l2 e w c o i => by
  refine ⟨fun hi => by show n ≤ i; simpa [rangeD] using hi, fun hi => by show i < n; simpa [rangeD] using hi, fun x H' d hd hy => ?_⟩
  obtain ⟨hH, rfl⟩ := hy
  obtain ⟨_, rfl⟩ := rangeD_get hd
  exact ⟨p2, hH.symm, Ext.refl _, w, c, .int _⟩
def kRg1 (R : Items → LS → Prop) (xs : List P) (l : LS) : Prop := match xs with
  | [.d (.int j)] => -(2 ^ 62) ≤ j ∧ j < 2 ^ 62 ∧ R ⟨rangeD 0 j.toNat, okAll⟩ l
  | _ => False
def iRg1 (ws : WA) (σ : SS) (l : LS) (R : Items → LS → Prop) (E : EK) : Prop := ws σ l (kRg1 R) E
theorem qi_range1 (hi : PI X tg e (iRng1 (cA X.K W ws))) : QI X W tg e (iRg1 ws) := PI.imp hi fun σ H R ⟨p, σd, l, Rd, Ed, hH, R0, hw, k, lk⟩ => by
  subst hH
  refine cA_ok R0 hw lk fun xs l1 vs p1 e1 R1 r1 q1 => ?_
  unfold kRg1 at q1
  split at q1
  · obtain ⟨v, rfl, r⟩ := r1.one
    cases r
    exact ⟨_, rfl, q1.1, q1.2.1, k _ l1 _ p1 e1 R1 it_range q1.2.2⟩
  · exact q1.elim
def kRg2 (R : Items → LS → Prop) (xs : List P) (l : LS) : Prop := match xs with
  | [.d (.int i), .d (.int j)] => (-(2 ^ 62) ≤ i ∧ i < 2 ^ 62 ∧ -(2 ^ 62) ≤ j ∧ j < 2 ^ 62) ∧ R ⟨rangeD i (j - i).toNat, okAll⟩ l
  | _ => False
def iRg2 (ws : WA) (σ : SS) (l : LS) (R : Items → LS → Prop) (E : EK) : Prop := ws σ l (kRg2 R) E
theorem qi_range2 (hi : PI X tg e (iRng2 (cA X.K W ws))) : QI X W tg e (iRg2 ws) := PI.imp hi fun σ H R ⟨p, σd, l, Rd, Ed, hH, R0, hw, k, lk⟩ => by
  subst hH
  refine cA_ok R0 hw lk fun xs l1 vs p1 e1 R1 r1 q1 => ?_
  unfold kRg2 at q1
  split at q1
  · obtain ⟨v, u, rfl, r, r2⟩ := r1.two
    cases r; cases r2
    exact ⟨_, _, rfl, q1.1, k _ l1 _ p1 e1 R1 it_range q1.2⟩
  · exact q1.elim
/-- range(a, b, -1) and the like -/
def rangeC (lo c : Int) (n : Nat) : List D := (List.range n).map fun i => D.int (lo + (i : Nat) * c)
theorem rangeC_get {lo c : Int} {n i : Nat} {d : D} (h : (rangeC lo c n)[i]? = some d) : i < n ∧ d = .int (lo + (i : Nat) * c) := by
  unfold rangeC at h
  rw [List.getElem?_map] at h
  by_cases hi : i < n
  · rw [List.getElem?_range hi] at h
    exact ⟨hi, by simpa using h.symm⟩
  · rw [List.getElem?_eq_none (by simpa using hi)] at h
    cases h
theorem rangeC_len {lo c : Int} {n : Nat} : (rangeC lo c n).length = n := by simp [rangeC]
theorem it_rangeC {K : PySem.W.Frag} {p : Pt} {lo c : Int} {n : Nat} : ItOk K p (Itc lo c n) ⟨rangeC lo c n, okAll⟩ := fun p2 l2 e w ce o i => by
  refine ⟨fun hi => by show n ≤ i; simpa [rangeC] using hi, fun hi => by show i < n; simpa [rangeC] using hi, fun x H' d hd hy => ?_⟩
  obtain ⟨hH, rfl⟩ := hy
  obtain ⟨_, rfl⟩ := rangeC_get hd
  exact ⟨p2, hH.symm, Ext.refl _, w, ce, .int _⟩
def kRg3 (R : Items → LS → Prop) (xs : List P) (l : LS) : Prop := match xs with
  | [.d (.int i), .d (.int j), .d (.int c)] => ∃ n, RgC i j c n ∧ R ⟨rangeC i c n, okAll⟩ l
  | _ => False
def iRg3 (ws : WA) (σ : SS) (l : LS) (R : Items → LS → Prop) (E : EK) : Prop := ws σ l (kRg3 R) E
theorem qi_range3 (hi : PI X tg e (iRng3 (cA X.K W ws))) : QI X W tg e (iRg3 ws) := PI.imp hi fun σ H R ⟨p, σd, l, Rd, Ed, hH, R0, hw, k, lk⟩ => by
  subst hH
  refine cA_ok R0 hw lk fun xs l1 vs p1 e1 R1 r1 q1 => ?_
  unfold kRg3 at q1
  split at q1
  · obtain ⟨n, h1, h2⟩ := q1
    cases r1 with
    | cons r t =>
      obtain ⟨v, u, rfl, r2, r3⟩ := RPs.two t
      cases r; cases r2; cases r3
      exact ⟨_, _, _, n, rfl, h1, k _ l1 _ p1 e1 R1 it_rangeC h2⟩
  · exact q1.elim
/-- over the signs of a text -/
def signsD (z : Str) : List D := z.cps.toList.map fun c => D.str ⟨#[c]⟩
def kSt (R : Items → LS → Prop) (x : P) (l : LS) : Prop := match x with
  | .d (.str z) => R ⟨signsD z, okAll⟩ l
  | _ => False
def iSt (we : WE) (σ : SS) (l : LS) (R : Items → LS → Prop) (E : EK) : Prop := we σ l (kSt R) E
theorem qi_str (hi : PI X tg e (iStr (cE X.K W we))) : QI X W tg e (iSt we) := PI.imp hi fun σ H R ⟨p, σd, l, Rd, Ed, hH, R0, hw, k, lk⟩ => by
  subst hH
  refine cE_ok R0 hw lk fun x l1 v p1 e1 R1 r1 q1 => ?_
  unfold kSt at q1
  split at q1
  · rename_i z
    cases r1
    refine ⟨z, rfl, k ⟨signsD z, okAll⟩ l1 _ p1 e1 R1 (fun p2 l2 e2 w2 c2 _ i => ?_) q1⟩
    refine ⟨fun hi => by show z.cps.size ≤ i; simpa [signsD] using hi, fun hi => by show i < z.cps.size; simpa [signsD] using hi, fun x H' d hd hy => ?_⟩
    obtain ⟨hH, c, hc, rfl⟩ := hy
    unfold signsD at hd
    rw [List.getElem?_map, Array.getElem?_toList, hc] at hd
    cases hd
    exact ⟨p2, hH.symm, Ext.refl _, w2, c2, .str _⟩
  · exact q1.elim
end

/-! ### for -/
def kTurn (tb : WS) (D : ED) (N : SS → LS → Prop) (σ : SS) (l : LS) : Prop := tb { D with nx := N, ct := N, bk := D.nx } σ l
def loopP (I : Items) (g : WG) (tb : WS) (D : ED) (σ : SS) (l : LS) : Prop := ∃ Iv : Nat → SS → LS → Prop, Iv 0 σ l ∧ (∀ i σ l, Iv i σ l → I.ok l) ∧
  (∀ i x σ l, I.xs[i]? = some x → Iv i σ l → g (.d x) σ l (kTurn tb D (Iv (i + 1)))) ∧ ∀ σ l, Iv I.xs.length σ l → D.nx σ l
def kFor (g : WG) (tb : WS) (D : ED) (σ : SS) (I : Items) (l : LS) : Prop := loopP I g tb D σ l
def wFor (wi : WI) (g : WG) (tb : WS) (D : ED) (σ : SS) (l : LS) : Prop := wi σ l (kFor g tb D σ) (exK D σ)
section
variable {X : Cx} {W : WX}
theorem qs_for {tg iter : Expr} {body : List Stmt} {wi : WI} {g : WG} {tb : WS} {pos : Pos} (hp : PassesOwn (model X.prog X.w) X.A X.env X.xe) (hc : X.calm = true) (hi : QI X W tg iter wi) (hg : QG X tg g) (hb : QSs X W body tb)
    (hs : ∀ x, foldedSetIterable iter X.env x = pure x := by intro _; rfl) : QS X W (.For tg iter body [] pos) (wFor wi g tb) := PS.imp (ps_for hp hc hi hg hb hs) fun D σ H ⟨p, σd, l, Dd, hH, R, hw, k⟩ => by
  subst hH
  refine cI_ok R hw k.link fun I l1 J p1 e1 R1 it q1 => ?_
  obtain ⟨Iv, h0, hok, hturn, hend⟩ := q1
  refine ⟨fun i m σ' H' => m = I.xs.length - i ∧ i ≤ I.xs.length ∧ ∃ p2 σd2 l2, p2.H = H' ∧ Ext p1 p2 ∧ Rel X.K p2 σ' σd2 l2 ∧ Iv i σd2 l2, ⟨_, rfl, Nat.zero_le _, p1, σd, l1, rfl, Ext.refl _, R1, h0⟩, ?_⟩
  rintro i m σ2 H2 ⟨rfl, hi, p2, σd2, l2, rfl, e2, R2, q2⟩
  obtain ⟨i1, i2, i3⟩ := it p2 l2 e2.lat R2.wf R2.ce (hok _ _ _ q2) i
  by_cases hlt : i < I.xs.length
  · refine .inr ⟨i2 hlt, fun σ' H' => ∃ p2 σd2 l2, p2.H = H' ∧ Ext p1 p2 ∧ Rel X.K p2 σ' σd2 l2 ∧ Iv (i + 1) σd2 l2, fun σ' H' hN => ⟨I.xs.length - (i + 1), by omega, rfl, hlt, hN⟩, fun x H' hy => ?_⟩
    obtain ⟨p3, rfl, e3, w3, c3, r3⟩ := i3 x H' _ (List.getElem?_eq_getElem hlt) hy
    have R3 := R2.ext e3 w3 c3
    refine cG_ok (d := .d _) R3 r3 (hturn i _ σd2 l2 (List.getElem?_eq_getElem hlt) q2) fun p4 σ4 σd4 l4 e4 R4 q4 => cS_ok R4 q4 ?_
    have E4 := ((e1.trans e2).trans e3).trans e4
    have F4 := (e2.trans e3).trans e4
    exact ⟨fun p' σ' σd' l' e R q => ⟨p', σd', l', rfl, F4.trans e, R, q⟩, fun p' a b c e => k.nx p' a b c (E4.trans e), fun p' σ' σd' l' e R q => ⟨p', σd', l', rfl, F4.trans e, R, q⟩,
      fun p' a b c e => k.rt p' a b c (E4.trans e), fun p' a b c d f g e => k.ex p' a b c d f g (E4.trans e)⟩
  · have : i = I.xs.length := by omega
    subst this
    exact .inl ⟨i1 (Nat.le_refl _), k.nx p2 σ2 σd2 l2 (e1.trans e2) R2 (hend _ _ q2)⟩
/-! ### while -/
def kLess (Iv : Nat → SS → LS → Prop) (m : Nat) (σ : SS) (l : LS) : Prop := ∃ m', m' < m ∧ Iv m' σ l
def kWh (tb : WS) (D : ED) (N : SS → LS → Prop) (σ : SS) (b : Bool) (l : LS) : Prop := if b = true then tb { D with nx := N, ct := N, bk := D.nx } σ l else D.nx σ l
def whileP (wt : WT) (tb : WS) (D : ED) (σ : SS) (l : LS) : Prop := ∃ Iv : Nat → SS → LS → Prop, (∃ m, Iv m σ l) ∧ ∀ m σ l, Iv m σ l → wt σ l (kWh tb D (kLess Iv m) σ) (exK D σ)
theorem qs_while {c : Expr} {body : List Stmt} {wt : WT} {tb : WS} {pos : Pos} (hp : PassesOwn (model X.prog X.w) X.A X.env X.xe) (hc : QT X W c wt) (hb : QSs X W body tb) : QS X W (.While c body [] pos) (whileP wt tb) := PS.imp (ps_while hp hc hb) fun D σ H ⟨p, σd, l, Dd, hH, R, hw, k⟩ => by
  subst hH
  obtain ⟨Iv, ⟨m0, h0⟩, turn⟩ := hw
  refine ⟨fun m σ' H' => ∃ p2 σd2 l2, p2.H = H' ∧ Ext p p2 ∧ Rel X.K p2 σ' σd2 l2 ∧ Iv m σd2 l2, ⟨m0, p, σd, l, rfl, Ext.refl _, R, h0⟩, ?_⟩
  rintro m σ2 H2 ⟨p2, σd2, l2, rfl, e2, R2, q2⟩
  refine cT_ok R2 (turn m σd2 l2 q2) (k.mono e2).link fun b l3 p3 e3 R3 q3 => ?_
  have E3 := e2.trans e3
  cases b with
  | true =>
    unfold kWh at q3
    rw [if_pos rfl] at q3 ⊢
    refine ⟨fun σ' H' => ∃ m', m' < m ∧ ∃ p2 σd2 l2, p2.H = H' ∧ Ext p p2 ∧ Rel X.K p2 σ' σd2 l2 ∧ Iv m' σd2 l2, fun σ' H' h => h, cS_ok R3 q3 ?_⟩
    exact ⟨fun p' σ' σd' l' e R ⟨m', hm, q⟩ => ⟨m', hm, p', σd', l', rfl, E3.trans e, R, q⟩, fun p' a b c e => k.nx p' a b c (E3.trans e), fun p' σ' σd' l' e R ⟨m', hm, q⟩ => ⟨m', hm, p', σd', l', rfl, E3.trans e, R, q⟩,
      fun p' a b c e => k.rt p' a b c (E3.trans e), fun p' a b c d f g e => k.ex p' a b c d f g (E3.trans e)⟩
  | false =>
    unfold kWh at q3
    rw [if_neg Bool.false_ne_true] at q3 ⊢
    exact k.nx p3 σ2 σd2 l3 E3 R3 q3
end

/-! ### list comprehensions -/
def wipeD (σ : SS) : List Nat → SS
  | [] => σ
  | v :: vs => (wipeD σ vs).set v none
theorem Slots.wipe {K : PySem.W.Frag} {p : Pt} {σ : St} {σd : SS} (h : Slots K p σd σ) : ∀ vs : List Nat, Slots K p (wipeD σd vs) (wipe σ vs)
  | [] => h
  | v :: vs => (Slots.wipe h vs).setNone
/-- I the invariant by the turn, what is made so far, the cells -/
def kEl (N : List D → LS → Prop) (acc : List D) (y : P) (l : LS) : Prop := match y with
  | .d y => N (acc ++ [y]) l
  | _ => False
def kTs (te : WE) (N : List D → LS → Prop) (acc : List D) (σ : SS) (b : Bool) (l : LS) : Prop := if b = true then te σ l (kEl N acc) noEx else N acc l
def kLcT (tt : WT) (te : WE) (vs : List Nat) (σ : SS) (N : List D → LS → Prop) (acc : List D) (σ2 : SS) (l : LS) : Prop := wipeD σ2 vs = wipeD σ vs ∧ tt σ2 l (kTs te N acc σ2) noEx
def lcP (I : Items) (g : WG) (tt : WT) (te : WE) (vs : List Nat) (f : Fresh) (σ : SS) (l : LS) (Q : P → LS → Prop) : Prop := ∃ Iv : Nat → List D → LS → Prop, Iv 0 [] l ∧ (∀ i acc l, Iv i acc l → I.ok l ∧ acc.length < sizeLine) ∧
  (∀ i x acc l, I.xs[i]? = some x → Iv i acc l → g (.d x) (wipeD σ vs) l (kLcT tt te vs σ (Iv (i + 1)) acc)) ∧ ∀ acc l, Iv I.xs.length acc l → freshL f acc l Q
def kLc (g : WG) (tt : WT) (te : WE) (vs : List Nat) (f : Fresh) (σ : SS) (Q : P → LS → Prop) (I : Items) (l : LS) : Prop := lcP I g tt te vs f σ l Q
def wLc (wi : WI) (g : WG) (tt : WT) (te : WE) (vs : List Nat) (f : Fresh) (σ : SS) (l : LS) (Q : P → LS → Prop) (E : EK) : Prop := wi σ l (kLc g tt te vs f σ Q) E
abbrev W0 : WX := fun _ _ _ _ => False
def QTs (X : Cx) (W : WX) (es : List Expr) (w : WT) : Prop := PTs X es (cT X.K W w)
def wYes (_ : SS) (l : LS) (Q : Bool → LS → Prop) (_ : EK) : Prop := Q true l
theorem qts_nil {X : Cx} {W : WX} : QTs X W [] wYes := by
  have h : PTs X [] tYes := pts_nil
  exact ⟨fun pins s σ H Q I ⟨p, σd, l, Qd, Ed, hH, R, hw, k, lk⟩ => h.run pins s σ H Q I (by subst hH; exact k true l p (Ext.refl p) R hw)⟩
theorem qts_one {X : Cx} {W : WX} {c : Expr} {w : WT} (h : QT X W c w) : QTs X W [c] w := pts_one h
/-! targets that store in some slots alone -/
def cGv (K : PySem.W.Frag) (vs : List Nat) (w : WG) : TG := fun v σ H Q => ∃ (p : Pt) (σd : SS) (l : LS) (d : P) (Qd : SS → LS → Prop), p.H = H ∧ Rel K p σ σd l ∧ RP K p d v ∧ w d σd l Qd ∧
  (∀ p' σ' σd' l', Ext p p' → Rel K p' σ' σd' l' → σ'.length = σ.length → (∀ i, i ∉ vs → σ'[i]? = σ[i]?) → Qd σd' l' → Q σ' p'.H)
def cGvs (K : PySem.W.Frag) (vs : List Nat) (w : WGs) : TGs := fun us σ H Q => ∃ (p : Pt) (σd : SS) (l : LS) (ds : List D) (Qd : SS → LS → Prop), p.H = H ∧ Rel K p σ σd l ∧ RDs K p ds us ∧ w ds σd l Qd ∧
  (∀ p' σ' σd' l', Ext p p' → Rel K p' σ' σd' l' → σ'.length = σ.length → (∀ i, i ∉ vs → σ'[i]? = σ[i]?) → Qd σd' l' → Q σ' p'.H)
def QGv (X : Cx) (vs : List Nat) (tg : Expr) (w : WG) : Prop := PG X tg (cGv X.K vs w)
def QGvs (X : Cx) (vs : List Nat) (ts : List Expr) (w : WGs) : Prop := PGs X ts (cGvs X.K vs w)
section
variable {X : Cx} {vs : List Nat} {e : Expr} {pos : Pos}
theorem qgv_name {i : Nat} {x : Str} (hv : i ∈ vs) (hN : X.N.Nodup) (hi : X.N[i]? = some x) (hx : Loc X.env.scope x) (hf : X.fn x = true ∨ X.env.scope.names.lookup x = some .local := by first | exact .inl rfl | exact .inr rfl | assumption) : QGv X vs (.Name x pos) (gN i) :=
  PG.imp (pg_name hN hi hx hf) fun v σ H Q ⟨p, σd, l, d, Qd, hH, R, r, hw, k⟩ => by
    subst hH
    exact k p _ _ l (Ext.refl p) (R.set r) (by simp) (fun j hj => List.getElem?_set_ne fun z => hj (by rw [← z]; exact hv)) hw
theorem qgvs_nil : QGvs X vs [] gE := PGs.imp pgs_nil fun vs σ H Q ⟨p, σd, l, ds, Qd, hH, R, r, hw, k⟩ => by
  subst hH
  cases r with
  | nil => exact ⟨rfl, k p _ _ l (Ext.refl p) R rfl (fun _ _ => rfl) hw⟩
  | cons _ _ => cases hw
theorem qgvs_cons {es : List Expr} {g : WG} {gs : WGs} (h1 : QGv X vs e g) (h2 : QGvs X vs es gs) (hs : (assignEach (e :: es) X.env).map (·.2) = assign e X.env :: (assignEach es X.env).map (·.2) := by rfl) : QGvs X vs (e :: es) (gC g gs) :=
  PGs.imp (pgs_cons h1 h2 hs) fun us σ H Q ⟨p, σd, l, ds, Qd, hH, R, r, hw, k⟩ => by
    subst hH
    cases r with
    | nil => cases hw
    | cons h r => exact ⟨_, _, rfl, p, σd, l, .d _, _, rfl, R, h, hw, fun p1 σ1 σd1 l1 e1 R1 z1 z2 q1 => ⟨p1, σd1, l1, _, _, rfl, R1, r.mono e1.hf, q1, fun p2 σ2 σd2 l2 e2 R2 y1 y2 q2 => k p2 σ2 σd2 l2 (e1.trans e2) R2 (y1.trans z1) (fun i hi => (y2 i hi).trans (z2 i hi)) q2⟩⟩
theorem qgv_tup {es : List Expr} {k : Nat} {gs : WGs} {n : Nat} (hc : X.calm = true) (h : QGvs X vs es gs) (hn : (assignEach es X.env).length = n := by rfl) (hst : (assignEach es X.env).findIdx? (·.1) = none := by rfl) : QGv X vs (.Tuple es k pos) (gT n gs) :=
  PG.imp (pg_tup hc h hn hst) fun v σ H Q ⟨p, σd, l, d, Qd, hH, R, r, hw, k⟩ => by
    subst hH
    cases d with
    | d d =>
      cases d with
      | tup ds =>
        cases r with
        | tup h1 h2 => exact ⟨_, _, rfl, h1.sq, h2.len.symm.trans hw.1, p, σd, l, ds, Qd, rfl, R, h2, hw.2, k⟩
      | _ => cases hw
    | _ => cases hw
end
theorem wipe_same {σ σ' : St} (hl : σ'.length = σ.length) : ∀ (vs ws : List Nat), (∀ i, i ∉ vs → i ∉ ws → σ'[i]? = σ[i]?) → (∀ i, i ∉ ws → (wipe σ' vs)[i]? = (wipe σ vs)[i]?)
  | [], ws, h => fun i hi => h i (by simp) hi
  | v :: vs, ws, h => fun i hi => by
    have ih := wipe_same hl vs (v :: ws) (fun i a b => by
      simp only [List.mem_cons, not_or] at b
      exact h i (by simp only [List.mem_cons, not_or]; exact ⟨b.1, a⟩) b.2)
    show ((wipe σ' vs).set v none)[i]? = ((wipe σ vs).set v none)[i]?
    have l1 : (wipe σ' vs).length = (wipe σ vs).length := by rw [wipe_length, wipe_length, hl]
    by_cases e : v = i
    · subst e
      by_cases hv : v < (wipe σ vs).length
      · rw [List.getElem?_set_self hv, List.getElem?_set_self (by rw [l1]; exact hv)]
      · rw [List.getElem?_eq_none (by rw [List.length_set, l1]; omega), List.getElem?_eq_none (by rw [List.length_set]; omega)]
    · rw [List.getElem?_set_ne e, List.getElem?_set_ne e]
      exact ih i (by simp only [List.mem_cons, not_or]; exact ⟨fun z => e z.symm, hi⟩)
theorem wipe_idem {σ σ' : St} {vs : List Nat} (hl : σ'.length = (wipe σ vs).length) (h : ∀ i, i ∉ vs → σ'[i]? = (wipe σ vs)[i]?) : wipe σ' vs = wipe σ vs := by
  apply List.ext_getElem?
  intro i
  have hl' : σ'.length = σ.length := by rw [hl, wipe_length]
  have h1 := wipe_same (σ := σ) (σ' := σ') hl' vs [] (fun i a _ => by
    rw [h i a]
    exact wipe_out a) i (by simp)
  exact h1
/-- the list that grows -/
structure Grow (K : PySem.W.Frag) (p1 p : Pt) (b0 : Addr) (acc : List D) (l : LS) : Prop where
  e : Ext p1 p
  w : WF p
  c : Cells K p l
  nF : ¬ p.F b0
  nr : b0 ∉ p.rho
  at_ : ∃ vs, p.H b0 = some (.lst vs) ∧ RDs K p acc vs
theorem Grow.start {K : PySem.W.Frag} {p1 : Pt} {b0 : Addr} {l : LS} (w : WF p1) (c : Cells K p1 l) (h : p1.H b0 = none) : Grow K p1 ⟨upd p1.H b0 (.lst []), p1.rho, p1.F⟩ b0 [] l := by
  have e : Ext p1 ⟨upd p1.H b0 (.lst []), p1.rho, p1.F⟩ := ⟨⟨[], by simp⟩, fun _ z => .inl z, fun _ z => z, fun _ z => .inl z, fun b o z _ => by
    show upd _ _ _ _ = _
    rw [upd_ne (ne_of_none z h)]; exact z, fun b o z _ => by
    show upd _ _ _ _ = _
    rw [upd_ne (ne_of_none z h)]; exact z, fun b o z => upd_some z, fun b o z => by
    show upd _ _ _ _ = _
    rw [upd_ne (ne_of_none z h)]; exact z⟩
  refine ⟨e, ⟨w.nd, fun a m => ?_, fun a m => ?_⟩, ⟨c.1, fun i d q => ?_⟩, w.nF h, w.nrho h, [], upd_same, .nil⟩
  · obtain ⟨o, z⟩ := w.hs a m
    exact upd_some z
  · obtain ⟨o, z⟩ := w.fs a m
    exact upd_some z
  · obtain ⟨b, h1, h2⟩ := c.2 i d q
    exact ⟨b, h1, h2.mono e (by show upd _ _ _ _ = _; rw [upd_ne fun z => w.nrho h (by rw [← z]; exact List.mem_of_getElem? h1)]) fun z => z⟩
theorem Grow.go {K : PySem.W.Frag} {p1 p p' : Pt} {b0 : Addr} {acc : List D} {l l' : LS} (g : Grow K p1 p b0 acc l) (e : Ext p p') (w : WF p') (c : Cells K p' l') : Grow K p1 p' b0 acc l' := by
  obtain ⟨vs, h1, h2⟩ := g.at_
  refine ⟨g.e.trans e, w, c, fun z => ?_, fun z => ?_, vs, e.keep _ _ h1 g.nr, h2.mono e.hf⟩
  · rcases e.fn b0 z with z | z | z
    · exact g.nF z
    · rw [h1] at z; cases z
    · exact g.nr z
  · rcases e.new b0 z with z | z
    · exact g.nr z
    · rw [h1] at z; cases z
theorem Grow.add {K : PySem.W.Frag} {p1 p : Pt} {b0 : Addr} {acc : List QL.D} {l : LS} {y : QL.D} {v : V} (g : Grow K p1 p b0 acc l) (n1 : p1.H b0 = none) (r : RD K p y v) : ∃ vs, p.H b0 = some (.lst vs) ∧ vs.length = acc.length ∧
    Grow K p1 ⟨upd p.H b0 (.lst (vs ++ [v])), p.rho, p.F⟩ b0 (acc ++ [y]) l := by
  obtain ⟨vs, h1, h2⟩ := g.at_
  have hf : HF p ⟨upd p.H b0 (.lst (vs ++ [v])), p.rho, p.F⟩ := ⟨fun _ z => z, fun b o z f => by
    show upd _ _ _ _ = _
    rw [upd_ne fun q => g.nF (by rw [← q]; exact f)]; exact z, fun b u z => by
    show upd _ _ _ _ = _
    rw [upd_ne fun q => by rw [q, h1] at z; cases z]; exact z⟩
  refine ⟨vs, h1, h2.len.symm, ⟨g.e.pre, g.e.new, g.e.fm, g.e.fn, fun b o z n => ?_, fun b o z n => ?_, fun b o z => ?_, fun b u z => by
    show upd _ _ _ _ = _
    rw [upd_ne (ne_of_none z n1)]; exact g.e.tups b u z⟩, ⟨g.w.nd, fun a m => ?_, fun a m => ?_⟩, ⟨g.c.1, fun i d q => ?_⟩, g.nF, g.nr, _, upd_same, (h2.append (.cons r .nil)).mono hf⟩
  · show upd _ _ _ _ = _
    rw [upd_ne (ne_of_none z n1)]; exact g.e.keep b o z n
  · show upd _ _ _ _ = _
    rw [upd_ne (ne_of_none z n1)]; exact g.e.keepF b o z n
  · obtain ⟨o', z'⟩ := g.e.there b o z
    exact upd_some z'
  · obtain ⟨o, z⟩ := g.w.hs a m
    exact upd_some z
  · obtain ⟨o, z⟩ := g.w.fs a m
    exact upd_some z
  · obtain ⟨b, q1, q2⟩ := g.c.2 i d q
    have nb : b ≠ b0 := fun z => g.nr (by rw [← z]; exact List.mem_of_getElem? q1)
    refine ⟨b, q1, ?_⟩
    exact q2.hf hf (by show upd _ _ _ _ = _; rw [upd_ne nb]) fun z => z
theorem Grow.end_ {K : PySem.W.Frag} {p1 p : Pt} {b0 : Addr} {acc : List QL.D} {l : LS} {f : Fresh} {Qd : P → LS → Prop} {Q : VK} (g : Grow K p1 p b0 acc l) (n1 : p1.H b0 = none) (q : freshL f acc l Qd)
    (k : ∀ d l' v p', Ext p1 p' → WF p' → Cells K p' l' → RP K p' d v → Qd d l' → Q v p'.H) : Q (.ref b0) p.H := by
  obtain ⟨vs, h1, h2⟩ := g.at_
  cases f with
  | frz =>
    have hf : HF p ⟨p.H, p.rho, fun b => p.F b ∨ b = b0⟩ := ⟨fun _ z => .inl z, fun b o z f => z, fun _ _ z => z⟩
    refine k (.d (.lst acc)) l (.ref b0) ⟨p.H, p.rho, fun b => p.F b ∨ b = b0⟩ ⟨g.e.pre, g.e.new, fun _ z => .inl (g.e.fm _ z), fun a z => ?_, g.e.keep, g.e.keepF, g.e.there, g.e.tups⟩ ⟨g.w.nd, g.w.hs, fun a m => ?_⟩ ⟨g.c.1, fun i d q => ?_⟩ (show RP K ⟨p.H, p.rho, fun b => p.F b ∨ b = b0⟩ (.d (.lst acc)) (.ref b0) from RD.lst ⟨Or.inr rfl, h1⟩ (h2.mono hf)) q
    · rcases z with z | z
      · exact g.e.fn a z
      · exact .inr (.inl (by rw [z]; exact n1))
    · rcases m with m | m
      · exact g.w.fs a m
      · exact ⟨_, by rw [m]; exact h1⟩
    · obtain ⟨b, q1, q2⟩ := g.c.2 i d q
      have nb : b ≠ b0 := fun z => g.nr (by rw [← z]; exact List.mem_of_getElem? q1)
      refine ⟨b, q1, ?_⟩
      exact q2.hf hf rfl fun z => z.elim id fun w => absurd w nb
  | cell =>
    have hf : HF p ⟨p.H, p.rho ++ [b0], p.F⟩ := ⟨fun _ z => z, fun b o z f => z, fun _ _ z => z⟩
    obtain ⟨t, ht⟩ := g.e.pre
    have q : Qd (.loc l.length) (l ++ [.lst acc]) := q
    refine k (.loc l.length) (l ++ [.lst acc]) (.ref b0) ⟨p.H, p.rho ++ [b0], p.F⟩ ⟨⟨t ++ [b0], by show p.rho ++ [b0] = _; rw [ht, List.append_assoc]⟩, fun a z => ?_, g.e.fm, g.e.fn, g.e.keep, g.e.keepF, g.e.there, g.e.tups⟩ ⟨?_, fun a m => ?_, g.w.fs⟩ ⟨by simp [g.c.1], fun i d q => ?_⟩
      (show RP K ⟨p.H, p.rho ++ [b0], p.F⟩ (.loc l.length) (.ref b0) from ⟨b0, by
        show (p.rho ++ [b0])[l.length]? = some b0
        rw [g.c.1, List.getElem?_append_right (Nat.le_refl _)]
        simp, rfl⟩) q
    · rcases List.mem_append.mp z with z | z
      · exact g.e.new a z
      · simp at z
        exact .inr (by rw [z]; exact n1)
    · show (p.rho ++ [b0]).Nodup
      rw [List.nodup_append]
      refine ⟨g.w.nd, by simp, fun x hx y hy e => ?_⟩
      simp at hy
      subst hy; subst e
      exact g.nr hx
    · rcases List.mem_append.mp m with m | m
      · exact g.w.hs a m
      · simp at m
        exact ⟨_, by rw [m]; exact h1⟩
    · by_cases hi : i < l.length
      · rw [List.getElem?_append_left hi] at q
        obtain ⟨b, q1, q2⟩ := g.c.2 i d q
        refine ⟨b, ?_, ?_⟩
        · show (p.rho ++ [b0])[i]? = _
          rw [List.getElem?_append_left (by rw [← g.c.1]; exact hi)]
          exact q1
        · exact q2.hf hf rfl fun z => z
      · have hi' : i = l.length := by
          have := (List.getElem?_eq_some_iff.mp q).1
          simp at this
          omega
        subst hi'
        rw [List.getElem?_append_right (Nat.le_refl _)] at q
        simp at q
        subst q
        refine ⟨b0, ?_, g.nF, vs, h1, h2.mono hf⟩
        show (p.rho ++ [b0])[l.length]? = _
        rw [g.c.1, List.getElem?_append_right (Nat.le_refl _)]
        simp
section
variable {X : Cx} {W : WX} {elt tg iter : Expr} {ifs : List Expr} {scope : Scope} {own : List (Str × Nat)} {pos : Pos} {wi : WI} {g : WG} {tt : WT} {te : WE}
theorem lc_ok {f : Fresh} {σ : St} {H : Hp} {Q : VK} (h : cE X.K W (wLc wi g tt te (own.map (·.2)) f) σ H Q) : tLc (cI X.K W wi) (cGv X.K (own.map (·.2)) g) (cT X.K W0 tt) (cE X.K W0 te) (own.map (·.2)) σ H Q := by
  obtain ⟨p, σd, l, Qd, Ed, hH, R, hw, k, lk⟩ := h
  subst hH
  refine cI_ok R hw lk fun I l1 J p1 e1 R1 it q1 D hD => ?_
  obtain ⟨Iv, h0, hok, hturn, hend⟩ := q1
  refine ⟨fun i m H' => m = I.xs.length - i ∧ i ≤ I.xs.length ∧ ∃ p2 l2 acc, p2.H = H' ∧ Grow X.K p1 p2 D acc l2 ∧ Iv i acc l2, ⟨_, rfl, Nat.zero_le _, _, l1, [], rfl, Grow.start R1.wf R1.ce hD, h0⟩, ?_⟩
  rintro i m H2 ⟨rfl, hi, p2, l2, acc, rfl, G2, q2⟩
  obtain ⟨ok2, sz2⟩ := hok _ _ _ q2
  obtain ⟨i1, i2, i3⟩ := it p2 l2 G2.e.lat G2.w G2.c ok2 i
  by_cases hlt : i < I.xs.length
  · refine .inr ⟨i2 hlt, fun H' => ∃ p2 l2 acc, p2.H = H' ∧ Grow X.K p1 p2 D acc l2 ∧ Iv (i + 1) acc l2, fun H' hN => ⟨I.xs.length - (i + 1), by omega, rfl, hlt, hN⟩, fun x H' hy => ?_⟩
    obtain ⟨p3, rfl, e3, w3, c3, r3⟩ := i3 x H' _ (List.getElem?_eq_getElem hlt) hy
    have G3 := G2.go e3 w3 c3
    have R3 : Rel X.K p3 (wipe σ (own.map (·.2))) (wipeD σd (own.map (·.2))) l2 := ⟨w3, ((R1.sl.mono G3.e).wipe _), c3⟩
    refine ⟨p3, _, l2, .d _, _, rfl, R3, r3, hturn i _ acc l2 (List.getElem?_eq_getElem hlt) q2, fun p4 σ4 σd4 l4 e4 R4 z1 z2 q4 => ⟨wipe_idem z1 z2, ?_⟩⟩
    have G4 := G3.go e4 R4.wf R4.ce
    refine cT_ok R4 q4.2 LinkE.never fun b l5 p5 e5 R5 q5 => ?_
    have G5 := G4.go e5 R5.wf R5.ce
    cases b with
    | true =>
      unfold kTs at q5
      rw [if_pos rfl] at q5 ⊢
      refine cE_ok R5 q5 LinkE.never fun y l6 v p6 e6 R6 r6 q6 => ?_
      have G6 := G5.go e6 R6.wf R6.ce
      unfold kEl at q6
      split at q6
      · rename_i y
        obtain ⟨vs, h1, h2, G7⟩ := G6.add hD r6
        exact ⟨vs, h1, by rw [h2]; exact sz2, _, l6, _, rfl, G7, q6⟩
      · exact q6.elim
    | false =>
      unfold kTs at q5
      rw [if_neg Bool.false_ne_true] at q5 ⊢
      exact ⟨p5, l5, acc, rfl, G5, q5⟩
  · have : i = I.xs.length := by omega
    subst this
    exact .inl ⟨i1 (Nat.le_refl _), G2.end_ hD (hend _ _ q2) fun d l' v p' e' w' c' r' q' => k d l' v p' (e1.trans e') (R1.ext e' w' c') r' q'⟩
theorem qe_lc {f : Fresh} (hc : X.calm = true) (hN : X.N.Nodup) (hi : QI X W tg iter wi) (ok : BlkOk X.N X.env.scope scope own)
    (hg : ∀ (s : Shared) (H : Hp) (C : Addr) (cl : List (Str × Addr)) (fp : List Addr), QGv (X.blk s H scope (compEnvC scope cl C X.env) fp) (own.map (·.2)) tg g) (ht : ∀ (s : Shared) (H : Hp) (C : Addr) (cl : List (Str × Addr)) (fp : List Addr), QTs (X.blk s H scope (compEnvC scope cl C X.env) fp) W0 ifs tt)
    (he : ∀ (s : Shared) (H : Hp) (C : Addr) (cl : List (Str × Addr)) (fp : List Addr), QE (X.blk s H scope (compEnvC scope cl C X.env) fp) W0 elt te) (hs : ∀ x, foldedSetIterable iter X.env x = pure x := by intro _; rfl) :
    QE X W (.ListComp elt [⟨tg, iter, ifs, 0⟩] scope pos) (wLc wi g tt te (own.map (·.2)) f) :=
  PE.imp (pe_lc (own := own) (g := cGv X.K (own.map fun q : Str × Nat => q.2) g) (tt := cT X.K W0 tt) (te := cE X.K W0 te) hc hN hi ok hg ht he hs) fun σ H Q h => lc_ok h
theorem qs_setLc {f : Fresh} {i : Nat} {y : Str} {py spos : Pos} (hc : X.calm = true) (hN : X.N.Nodup) (hy : X.N[i]? = some y) (hyl : X.env.scope.names.lookup y = some .local)
    (hsw : swapsWith (.ListComp elt [⟨tg, iter, ifs, 0⟩] scope pos) (some (.Name y py)) spos.line X.env = pure true) (hi : QI X W tg iter wi) (ok : BlkOk X.N X.env.scope scope own)
    (hg : ∀ (s : Shared) (H : Hp) (C : Addr) (cl : List (Str × Addr)) (fp : List Addr), QGv (X.blk s H scope (compEnvC scope cl C X.env) fp) (own.map (·.2)) tg g) (ht : ∀ (s : Shared) (H : Hp) (C : Addr) (cl : List (Str × Addr)) (fp : List Addr), QTs (X.blk s H scope (compEnvC scope cl C X.env) fp) W0 ifs tt)
    (he : ∀ (s : Shared) (H : Hp) (C : Addr) (cl : List (Str × Addr)) (fp : List Addr), QE (X.blk s H scope (compEnvC scope cl C X.env) fp) W0 elt te) (hs : ∀ x, foldedSetIterable iter X.env x = pure x := by intro _; rfl) :
    QS X W (.Assign [.Name y py] (.ListComp elt [⟨tg, iter, ifs, 0⟩] scope pos) spos) (wAsg (wLc wi g tt te (own.map (·.2)) f) (gN i)) :=
  PS.imp (ps_setLc (own := own) (g := cGv X.K (own.map fun q : Str × Nat => q.2) g) (tt := cT X.K W0 tt) (te := cE X.K W0 te) hc hN hy hyl hsw hi ok hg ht he hs) fun D σ H ⟨p, σd, l, Dd, hH, R, hw, k⟩ => by
    subst hH
    exact lc_ok (X := X) (W := W) (cE_ok R hw k.link fun x l1 v p1 e1 R1 r1 q1 => k.nx p1 _ _ l1 e1 (R1.set r1) q1)
end
/-! ### defs -/
abbrev FS := List P → LS → (P → LS → Prop) → EK → Prop
/-- a def's promise over plain data: p has the arguments' cells alone -/
def spQ (K : PySem.W.Frag) (n : Nat) (fs : FS) : Sp := fun vs H Q E => ∃ (p : Pt) (ds : List P) (l : LS) (Qd : P → LS → Prop) (Ed : EK), p.H = H ∧ WF p ∧ Cells K p l ∧ RPs K p ds vs ∧ ds.length = n ∧ fs ds l Qd Ed ∧
  (∀ d l' v p', Ext p p' → WF p' → Cells K p' l' → RP K p' d v → Qd d l' → Q v p'.H) ∧ (∀ ex l' cls dd p', Ext p p' → WF p' → Cells K p' l' → XR K p' ex cls dd → Ed ex l' → E cls dd p'.H)
/-- what comes back: the arguments' cells, then the cell of a new list that is handed back -/
def retN (n : Nat) (Qd : P → LS → Prop) (r : P) (l : LS) : Prop := match r with
  | .d x => Qd (.d x) (l.take n)
  | .loc j => if j < n then Qd (.loc j) (l.take n) else match l[j]? with
    | some c => Qd (.loc n) (l.take n ++ [c])
    | none => False
  | .exc _ _ _ _ => False
def kEnd (n : Nat) (Qd : P → LS → Prop) (_ : SS) (l : LS) : Prop := retN n Qd (.d .non) l
def kNever (_ : SS) (_ : LS) : Prop := False
def kEx (Ed : EK) (ex : Ex) (_ : SS) (l : LS) : Prop := Ed ex l
theorem cut_ok {K : PySem.W.Frag} {p p' : Pt} {l : LS} (e : Ext p p') (w : WF p') (c : Cells K p' l) : ∃ p2 : Pt, p2.H = p'.H ∧ p2.F = p'.F ∧ p2.rho = p.rho ∧ Ext p p2 ∧ WF p2 ∧ Cells K p2 (l.take p.rho.length) ∧ HF p' p2 := by
  obtain ⟨t, ht⟩ := e.pre
  refine ⟨⟨p'.H, p.rho, p'.F⟩, rfl, rfl, rfl, ⟨⟨[], by simp⟩, fun _ z => .inl z, e.fm, e.fn, e.keep, e.keepF, e.there, e.tups⟩, ⟨?_, fun a m => w.hs a (by rw [ht]; exact List.mem_append_left _ m), w.fs⟩, ⟨?_, fun i d q => ?_⟩, ⟨fun _ z => z, fun _ _ z _ => z, fun _ _ z => z⟩⟩
  · have nd := w.nd
    rw [ht, List.nodup_append] at nd
    exact nd.1
  · rw [List.length_take, c.1, ht, List.length_append]
    show min p.rho.length (p.rho.length + t.length) = p.rho.length
    omega
  · have hi : i < p.rho.length := by
      have := (List.getElem?_eq_some_iff.mp q).1
      rw [List.length_take] at this
      omega
    rw [List.getElem?_take_of_lt hi] at q
    obtain ⟨a, h1, h2⟩ := c.2 i d q
    rw [ht, List.getElem?_append_left hi] at h1
    refine ⟨a, h1, ?_⟩
    exact h2.hf ⟨fun _ z => z, fun _ _ z _ => z, fun _ _ z => z⟩ rfl fun z => z
theorem ret_ok {K : PySem.W.Frag} {p p' : Pt} {l : LS} {r : P} {v : V} {n : Nat} {Qd : P → LS → Prop} {Q : VK} (e : Ext p p') (w : WF p') (c : Cells K p' l) (rr : RP K p' r v) (hn : p.rho.length = n) (h : retN n Qd r l)
    (k : ∀ d l' v p', Ext p p' → WF p' → Cells K p' l' → RP K p' d v → Qd d l' → Q v p'.H) : Q v p'.H := by
  subst hn
  obtain ⟨p2, hH, hF, hr, e2, w2, c2, hf⟩ := cut_ok e w c
  unfold retN at h
  split at h
  · rename_i x
    have r2 : RP K p2 (.d x) v := RD.mono hf rr
    rw [← hH]
    exact k _ _ _ _ e2 w2 c2 r2 h
  · rename_i j
    obtain ⟨a, h1, rfl⟩ := rr
    obtain ⟨t, ht⟩ := e.pre
    split at h
    · rename_i hj
      rw [← hH]
      refine k (.loc j) _ _ _ e2 w2 c2 (show RP K p2 (.loc j) (.ref a) from ⟨a, ?_, rfl⟩) h
      rw [hr]
      rw [ht, List.getElem?_append_left hj] at h1
      exact h1
    · rename_i hj
      split at h
      · rename_i cl hcl
        obtain ⟨b, h2, h3⟩ := c.2 j cl hcl
        rw [h1] at h2
        cases h2
        have na : a ∉ p.rho := fun m => by
          obtain ⟨i, hi1⟩ := List.getElem?_of_mem m
          have hi2 : i < p.rho.length := (List.getElem?_eq_some_iff.mp hi1).1
          have hi3 : p'.rho[i]? = some a := by rw [ht, List.getElem?_append_left hi2]; exact hi1
          have := nodup_at w.nd hi3 h1
          omega
        have hf3 : HF p' ⟨p'.H, p.rho ++ [a], p'.F⟩ := ⟨fun _ z => z, fun _ _ z _ => z, fun _ _ z => z⟩
        have pa : p.H a = none := by
          rcases e.new a (List.mem_of_getElem? h1) with z | z
          · exact absurd z na
          · exact z
        refine k (.loc p.rho.length) (l.take p.rho.length ++ [cl]) _ ⟨p'.H, p.rho ++ [a], p'.F⟩ ⟨⟨[a], rfl⟩, fun b z => ?_, e.fm, e.fn, e.keep, e.keepF, e.there, e.tups⟩ ⟨?_, fun b m => ?_, w.fs⟩ ⟨?_, fun i d q => ?_⟩ (show RP K ⟨p'.H, p.rho ++ [a], p'.F⟩ (.loc p.rho.length) (.ref a) from ⟨a, by
          show (p.rho ++ [a])[p.rho.length]? = _
          rw [List.getElem?_append_right (Nat.le_refl _)]
          simp, rfl⟩) h
        · rcases List.mem_append.mp z with z | z
          · exact .inl z
          · simp at z; exact .inr (by rw [z]; exact pa)
        · show (p.rho ++ [a]).Nodup
          rw [List.nodup_append]
          refine ⟨?_, by simp, fun x hx y hy q => ?_⟩
          · have nd := w.nd
            rw [ht, List.nodup_append] at nd
            exact nd.1
          · simp at hy
            subst hy; subst q
            exact na hx
        · rcases List.mem_append.mp m with m | m
          · exact w.hs b (by rw [ht]; exact List.mem_append_left _ m)
          · simp at m
            exact w.hs b (by rw [m]; exact List.mem_of_getElem? h1)
        · have := c2.1
          rw [hr] at this
          simp [this]
        · by_cases hi : i < p.rho.length
          · have hi' : i < (l.take p.rho.length).length := by rw [c2.1, hr]; exact hi
            rw [List.getElem?_append_left hi'] at q
            obtain ⟨b, q1, q2⟩ := c2.2 i d q
            rw [hr] at q1
            refine ⟨b, ?_, ?_⟩
            · show (p.rho ++ [a])[i]? = _
              rw [List.getElem?_append_left hi]; exact q1
            · exact q2.hf ⟨fun _ z => by show p'.F _; rw [← hF]; exact z, fun b o z _ => by show p'.H b = _; rw [← hH]; exact z, fun b o z => by show p'.H b = _; rw [← hH]; exact z⟩ (by show p'.H b = _; rw [hH]) fun z => by rw [hF]; exact z
          · have hl : (l.take p.rho.length).length = p.rho.length := by rw [c2.1, hr]
            have hi' : i = p.rho.length := by
              have := (List.getElem?_eq_some_iff.mp q).1
              simp only [List.length_append, hl, List.length_singleton] at this
              omega
            subst hi'
            rw [List.getElem?_append_right (by rw [hl]; exact Nat.le_refl _), hl] at q
            simp at q
            subst q
            refine ⟨a, ?_, ?_⟩
            · show (p.rho ++ [a])[p.rho.length]? = _
              rw [List.getElem?_append_right (Nat.le_refl _)]
              simp
            · exact h3.hf hf3 rfl fun z => z
      · exact h.elim
  · exact h.elim
/-- the names at the entry -/
def startD (N : List Str) (ds : List P) : SS := ds.map some ++ List.replicate (N.length - ds.length) none
theorem start_sl {K : PySem.W.Frag} {p : Pt} {N : List Str} {ds : List P} {vs : List V} (h : RPs K p ds vs) : Slots K p (startD N ds) (L2.start N vs) := by
  have hl : ds.length = vs.length := Paired.length h
  refine ⟨by simp [startD, L2.start, hl], fun i d q => ?_⟩
  unfold startD at q
  by_cases hi : i < ds.length
  · rw [List.getElem?_append_left (by simpa using hi), List.getElem?_map] at q
    cases e : ds[i]? with
    | none => rw [e] at q; cases q
    | some d' =>
      rw [e] at q
      cases q
      have : ∀ {ds : List P} {vs : List V} {i : Nat}, RPs K p ds vs → ds[i]? = some d → ∃ v, vs[i]? = some v ∧ RP K p d v := by
        intro ds vs i h
        induction h generalizing i with
        | nil => intro e; simp at e
        | cons r _ ih =>
          intro e
          cases i with
          | zero => simp at e; subst e; exact ⟨_, rfl, r⟩
          | succ i => simpa using ih (by simpa using e)
      obtain ⟨v, g1, g2⟩ := this h e
      refine ⟨v, ?_, g2⟩
      unfold L2.start
      rw [List.getElem?_append_left (by simpa using (List.getElem?_eq_some_iff.mp g1).1), List.getElem?_map, g1]
      rfl
  · rw [List.getElem?_append_right (by simpa using hi), List.getElem?_replicate] at q
    split at q <;> cases q
section
variable {P : Program} {w : World} {K : PySem.W.Frag} {mg : Str → Option Value} {base : Heap}
open PyProof.Rows (envOfC) in
/-- THE RULE for a def -/
theorem fun_q {x qual : Str} {st : Stmt} {f : Addr} {fd : FuncData} {N ps : List Str} {k : Nat} {fs : FS} {wb : WS} (F : Fun K x qual st f fd) (S : FnScope N ps (defScope st)) (n : Nat) (hn : n = ps.length)
    (hbody : ∀ (cdv : Value) (A : Around) (outer : List Env) (s : Shared) (H : Hp) (E : XK), Room k (A.deeper (envOfC qual (defScope st) s.heap.objs.size f cdv)) →
      L2N.Takes (cxOf (L2N.CX P w) P w K mg base N qual (defScope st) f cdv A outer s H E) (fun cls d _ H => E cls d H) →
      QSs (cxOf (L2N.CX P w) P w K mg base N qual (defScope st) f cdv A outer s H E) (fun cls d _ H => E cls d H) (defBody st) wb)
    (hw : ∀ ds l Qd Ed, ds.length = n → fs ds l Qd Ed → wb { nx := kEnd l.length Qd, rt := retN l.length Qd, bk := kNever, ct := kNever, ex := kEx Ed } (startD N ds) l) :
    FnOk P w K mg base (L2N.CX P w) (k + 1) f fd ps (spQ K n fs) := by
  obtain ⟨oc, od, kV, doc, pm, an, cdv, ct, osl, rfl, lk, hcd⟩ := F.ex
  refine fn_of lk hcd S (fun vs H Q E h => ?_) fun A outer s H vs Q E hr h => ⟨_, hbody cdv A outer s H E hr (L2N.takes_of rfl rfl rfl rfl), ?_⟩
  · obtain ⟨p, ds, l, Qd, Ed, _, _, _, r, e, _⟩ := h
    rw [← Paired.length r, e, hn]
  · obtain ⟨p, ds, l, Qd, Ed, rfl, wf, ce, r, e, hfs, kk, kx⟩ := h
    refine cS_ok ⟨wf, start_sl r, ce⟩ (hw ds l Qd Ed e hfs) ⟨fun p' σ' σd' l' e' R q => ?_, fun _ _ _ _ _ _ q => q.elim, fun _ _ _ _ _ _ q => q.elim, fun p' d v l' e' w' c' r' q => ?_, fun p' σ' σd' l' ex cls dd e' R x q => ?_⟩
    · exact ret_ok (r := .d .non) e' R.wf R.ce RD.non ce.1.symm q kk
    · exact ret_ok e' w' c' r' ce.1.symm q kk
    · exact kx ex l' cls dd p' e' R.wf R.ce x q
end
end QL
set_option Elab.async false
set_option linter.all false
set_option maxRecDepth 100000
set_option maxHeartbeats 4000000
/-! QL6: calls of own defs. -/
namespace QL
open PySem L2

def locsOf : List P → List Nat
  | [] => []
  | .loc n :: r => n :: locsOf r
  | _ :: r => locsOf r
def relab : List P → Nat → List P
  | [], _ => []
  | .loc _ :: r, i => .loc i :: relab r (i + 1)
  | x :: r, i => x :: relab r i
def pick (l : LS) : List Nat → Option LS
  | [] => some []
  | n :: ns => match l[n]?, pick l ns with
    | some c, some cs => some (c :: cs)
    | _, _ => none
def wback : LS → List Nat → LS → LS
  | l, n :: ns, c :: cs => wback (l.set n c) ns cs
  | l, _, _ => l
def callB (ns : List Nat) (l : LS) (Q : P → LS → Prop) (r : P) (cs : LS) : Prop := match r with
  | .d x => Q (.d x) (wback l ns cs)
  | .loc j => if j < ns.length then Q (.loc (ns.getD j 0)) (wback l ns cs) else if j = ns.length then (match cs[ns.length]? with
    | some c => Q (.loc l.length) (wback l ns cs ++ [c])
    | none => False) else False
  | .exc _ _ _ _ => False
def callE (ns : List Nat) (l : LS) (E : EK) (ex : Ex) (cs : LS) : Prop := E ex (wback l ns cs)
def callP (fs : FS) (vs : List P) (l : LS) (Q : P → LS → Prop) (E : EK) : Prop := match pick l (locsOf vs) with
  | some cs => (locsOf vs).Nodup ∧ fs (relab vs 0) cs (callB (locsOf vs) l Q) (callE (locsOf vs) l E)
  | none => False

theorem wback_len : ∀ (ns : List Nat) (l cs : LS), (wback l ns cs).length = l.length
  | [], l, cs => by cases cs <;> rfl
  | n :: ns, l, [] => rfl
  | n :: ns, l, c :: cs => by
    show (wback (l.set n c) ns cs).length = _
    rw [wback_len ns, List.length_set]
theorem wback_out : ∀ (ns : List Nat) (l cs : LS) (i : Nat), i ∉ ns → (wback l ns cs)[i]? = l[i]?
  | [], l, cs, i, _ => by cases cs <;> rfl
  | n :: ns, l, [], i, _ => rfl
  | n :: ns, l, c :: cs, i, h => by
    simp only [List.mem_cons, not_or] at h
    show (wback (l.set n c) ns cs)[i]? = _
    rw [wback_out ns _ cs i h.2, List.getElem?_set_ne fun e => h.1 e.symm]
theorem wback_in : ∀ (ns : List Nat) (l cs : LS) (i j : Nat) (c : Cell), ns.Nodup → ns[j]? = some i → i < l.length → cs[j]? = some c → (wback l ns cs)[i]? = some c
  | [], _, _, _, _, _, _, h, _, _ => by simp at h
  | n :: ns, l, [], i, j, c, _, _, _, h => by simp at h
  | n :: ns, l, d :: cs, i, 0, c, nd, h, hi, hc => by
    simp at h hc
    subst h; subst hc
    show (wback (l.set n d) ns cs)[n]? = _
    rw [wback_out ns _ cs n (List.nodup_cons.mp nd).1, List.getElem?_set_self hi]
  | n :: ns, l, d :: cs, i, j + 1, c, nd, h, hi, hc => by
    show (wback (l.set n d) ns cs)[i]? = _
    exact wback_in ns _ cs i j c (List.nodup_cons.mp nd).2 (by simpa using h) (by simpa using hi) (by simpa using hc)
theorem pick_get : ∀ {ns : List Nat} {l cs : LS}, pick l ns = some cs → cs.length = ns.length ∧ ∀ (j n : Nat), ns[j]? = some n → ∃ c, l[n]? = some c ∧ cs[j]? = some c
  | [], l, cs, h => by
    cases h
    exact ⟨rfl, fun j n h => by simp at h⟩
  | n :: ns, l, cs, h => by
    unfold pick at h
    split at h
    · rename_i c cs' h1 h2
      cases h
      obtain ⟨g1, g2⟩ := pick_get h2
      refine ⟨by simp [g1], fun j m hj => ?_⟩
      cases j with
      | zero => simp at hj; subst hj; exact ⟨c, h1, rfl⟩
      | succ j => simpa using g2 j m (by simpa using hj)
    · cases h
section
variable {K : PySem.W.Frag} {p : Pt} {l : LS}
/-- the addresses of some cells -/
def addrs (p : Pt) (ns : List Nat) : List Addr := ns.map fun n => p.rho.getD n 0
theorem addrs_get {ns : List Nat} {j n : Nat} {a : Addr} (h : ns[j]? = some n) (h2 : p.rho[n]? = some a) : (addrs p ns)[j]? = some a := by
  unfold addrs
  rw [List.getElem?_map, h]
  simp [List.getD, h2]
theorem relab_ok {ns : List Nat} : ∀ {vs : List P} {us : List V} {i : Nat} {t : List Nat}, RPs K p vs us → ns = t ++ locsOf vs → t.length = i → RPs K ⟨p.H, addrs p ns, p.F⟩ (relab vs i) us
  | [], _, _, _, .nil, _, _ => .nil
  | .d x :: r, _, i, t, .cons h q, e, hi => .cons (show RP K ⟨p.H, addrs p ns, p.F⟩ (.d x) _ from RD.mono (p := p) (p' := ⟨p.H, addrs p ns, p.F⟩) ⟨fun _ z => z, fun _ _ z _ => z, fun _ _ z => z⟩ h) (relab_ok q e hi)
  | .exc a c dd ex :: r, _, i, t, .cons h q, e, hi => .cons (show RP K ⟨p.H, addrs p ns, p.F⟩ (.exc a c dd ex) _ from ⟨h.1, XR.mono (p := p) (p' := ⟨p.H, addrs p ns, p.F⟩) ⟨fun _ z => z, fun _ _ z _ => z, fun _ _ z => z⟩ h.2⟩) (relab_ok q e hi)
  | .loc n :: r, _, i, t, .cons h q, e, hi => by
    obtain ⟨a, h1, rfl⟩ := h
    refine .cons (show RP K ⟨p.H, addrs p ns, p.F⟩ (.loc i) _ from ⟨a, ?_, rfl⟩) (relab_ok (t := t ++ [n]) q (by rw [e]; simp [locsOf]) (by simp [hi]))
    refine addrs_get (n := n) ?_ h1
    rw [e, List.getElem?_append_right (by omega)]
    simp [hi, locsOf]
theorem call_ok {fs : FS} {n : Nat} {vs : List P} {us : List V} {Qd : P → LS → Prop} {Ed : EK} {Q : VK} {E : XK} (w : WF p) (ce : Cells K p l) (r : RPs K p vs us) (hl : vs.length = n) (h : callP fs vs l Qd Ed)
    (k : After K p Qd Q) (kx : ∀ ex l' cls dd p', Ext p p' → WF p' → Cells K p' l' → XR K p' ex cls dd → Ed ex l' → E cls dd p'.H) : spQ K n fs us p.H Q E := by
  unfold callP at h
  split at h
  · rename_i cs hcs
    obtain ⟨nd, hfs⟩ := h
    obtain ⟨gl, gp⟩ := pick_get hcs
    generalize hns : locsOf vs = ns at *
    have lt : ∀ j m, ns[j]? = some m → ∃ a, p.rho[m]? = some a ∧ (addrs p ns)[j]? = some a := fun j m e => by
      obtain ⟨c, h1, _⟩ := gp j m e
      obtain ⟨a, h2, _⟩ := ce.2 m c h1
      exact ⟨a, h2, addrs_get e h2⟩
    have sub : ∀ a ∈ addrs p ns, ∃ (j m : Nat), ns[j]? = some m ∧ p.rho[m]? = some a ∧ (addrs p ns)[j]? = some a := fun a m => by
      obtain ⟨j, hj⟩ := List.getElem?_of_mem m
      have hj1 : j < ns.length := by
        have := (List.getElem?_eq_some_iff.mp hj).1
        simpa [addrs] using this
      obtain ⟨b, h1, h2⟩ := lt j _ (List.getElem?_eq_getElem hj1)
      rw [hj] at h2
      cases h2
      exact ⟨j, _, List.getElem?_eq_getElem hj1, h1, hj⟩
    have wc : WF ⟨p.H, addrs p ns, p.F⟩ := by
      refine ⟨?_, fun a m => ?_, w.fs⟩
      · rw [List.nodup_iff_pairwise_ne, List.pairwise_iff_getElem]
        intro i j hi hj hij e
        have h1 := List.getElem?_eq_getElem hi
        have h2 := List.getElem?_eq_getElem hj
        obtain ⟨a, q1, q2⟩ := lt i _ (List.getElem?_eq_getElem (by simpa [addrs] using hi))
        obtain ⟨b, q3, q4⟩ := lt j _ (List.getElem?_eq_getElem (by simpa [addrs] using hj))
        rw [h1] at q2
        rw [h2] at q4
        cases q2; cases q4
        rw [e] at q1
        have z := nodup_at w.nd q1 q3
        have z2 := (List.getElem_inj nd).mp z
        omega
      · obtain ⟨_, _, _, h1, _⟩ := sub a m
        exact w.hs a (List.mem_of_getElem? h1)
    have cc : Cells K ⟨p.H, addrs p ns, p.F⟩ cs := by
      refine ⟨by simp [addrs, gl], fun j c e => ?_⟩
      have hj : j < ns.length := by rw [← gl]; exact (List.getElem?_eq_some_iff.mp e).1
      obtain ⟨c', h1, h2⟩ := gp j _ (List.getElem?_eq_getElem hj)
      rw [e] at h2
      cases h2
      obtain ⟨a, h3, h4⟩ := ce.2 _ _ h1
      exact ⟨a, addrs_get (List.getElem?_eq_getElem hj) h3, h4.hf ⟨fun _ z => z, fun _ _ z _ => z, fun _ _ z => z⟩ rfl fun z => z⟩
    -- back in the caller
    have back : ∀ (p' : Pt) (l' : LS) (t : List Addr) (l2 : LS), Ext ⟨p.H, addrs p ns, p.F⟩ p' → WF p' → Cells K p' l' → (t = [] ∧ l2 = wback l ns l' ∨ ∃ a c, t = [a] ∧ p'.rho[ns.length]? = some a ∧ l'[ns.length]? = some c ∧ l2 = wback l ns l' ++ [c]) →
        Ext p ⟨p'.H, p.rho ++ t, p'.F⟩ ∧ WF ⟨p'.H, p.rho ++ t, p'.F⟩ ∧ Cells K ⟨p'.H, p.rho ++ t, p'.F⟩ l2 := fun p' l' t l2 e w' c' ht => by
      have hnew : ∀ a, a ∈ t → p.H a = none ∧ a ∉ p.rho ∧ ∃ o, p'.H a = some o := fun a m => by
        rcases ht with ⟨rfl, _⟩ | ⟨b, c, rfl, h1, h2, _⟩
        · simp at m
        · simp at m
          subst m
          have hn : p.H a = none := by
            rcases e.new a (List.mem_of_getElem? h1) with z | z
            · exfalso
              obtain ⟨j, hj⟩ := List.getElem?_of_mem z
              obtain ⟨u, hu⟩ := e.pre
              have hj1 : j < (addrs p ns).length := (List.getElem?_eq_some_iff.mp hj).1
              have hj2 : p'.rho[j]? = some a := by rw [hu]; exact (List.getElem?_append_left hj1).trans hj
              have := nodup_at w'.nd hj2 h1
              have hj3 : j < ns.length := by simpa [addrs] using hj1
              omega
            · exact z
          exact ⟨hn, w.nrho hn, w'.hs a (List.mem_of_getElem? h1)⟩
      have hf : HF p' ⟨p'.H, p.rho ++ t, p'.F⟩ := ⟨fun _ z => z, fun _ _ z _ => z, fun _ _ z => z⟩
      have E2 : Ext p ⟨p'.H, p.rho ++ t, p'.F⟩ := by
        refine ⟨⟨t, rfl⟩, fun a m => ?_, e.fm, fun a z => ?_, fun b o z n => e.keep b o z fun m => ?_, e.keepF, e.there, e.tups⟩
        · rcases List.mem_append.mp m with m | m
          · exact .inl m
          · exact .inr (hnew a m).1
        · rcases e.fn a z with z | z | z
          · exact .inl z
          · exact .inr (.inl z)
          · obtain ⟨_, _, _, h1, _⟩ := sub a z
            exact .inr (.inr (List.mem_of_getElem? h1))
        · obtain ⟨_, _, _, h1, _⟩ := sub b m
          exact n (List.mem_of_getElem? h1)
      have W2 : WF ⟨p'.H, p.rho ++ t, p'.F⟩ := by
        refine ⟨?_, fun a m => ?_, w'.fs⟩
        · show (p.rho ++ t).Nodup
          rw [List.nodup_append]
          refine ⟨w.nd, ?_, fun x hx y hy q => (hnew y hy).2.1 (by rw [← q]; exact hx)⟩
          rcases ht with ⟨rfl, _⟩ | ⟨b, c, rfl, _⟩ <;> simp
        · rcases List.mem_append.mp m with m | m
          · obtain ⟨o, z⟩ := w.hs a m
            exact e.there a o z
          · exact (hnew a m).2.2
      have old : ∀ i c, (wback l ns l')[i]? = some c → ∃ a, p.rho[i]? = some a ∧ CellOk K ⟨p'.H, p.rho ++ t, p'.F⟩ c a := fun i c q => by
        have hi : i < l.length := by rw [← wback_len ns l l']; exact (List.getElem?_eq_some_iff.mp q).1
        by_cases m : i ∈ ns
        · obtain ⟨j, hj⟩ := List.getElem?_of_mem m
          obtain ⟨a, h1, h2⟩ := lt j i hj
          obtain ⟨u, hu⟩ := e.pre
          have hj1 : j < ns.length := (List.getElem?_eq_some_iff.mp hj).1
          have h3 : p'.rho[j]? = some a := by rw [hu]; exact (List.getElem?_append_left (by simpa [addrs] using hj1)).trans h2
          have hj2 : j < l'.length := by rw [c'.1]; exact (List.getElem?_eq_some_iff.mp h3).1
          have q2 := wback_in ns l l' i j _ nd hj hi (List.getElem?_eq_getElem hj2)
          rw [q] at q2
          cases q2
          obtain ⟨b, h4, h5⟩ := c'.2 j _ (List.getElem?_eq_getElem hj2)
          rw [h3] at h4
          cases h4
          exact ⟨a, h1, h5.hf hf rfl fun z => z⟩
        · rw [wback_out ns l l' i m] at q
          obtain ⟨a, h1, h2⟩ := ce.2 i c q
          have na : a ∉ addrs p ns := fun z => by
            obtain ⟨j, m', h3, h4, _⟩ := sub a z
            have := nodup_at w.nd h4 h1
            subst this
            exact m (List.mem_of_getElem? h3)
          obtain ⟨o, ho⟩ := w.hs a (List.mem_of_getElem? h1)
          refine ⟨a, h1, h2.mono E2 ((e.keep a o ho na).trans ho.symm) fun z => ?_⟩
          rcases e.fn a z with z | z | z
          · exact z
          · rw [show p.H a = none from z] at ho; cases ho
          · exact absurd z na
      refine ⟨E2, W2, ?_⟩
      have hlen : l.length = p.rho.length := ce.1
      rcases ht with ⟨rfl, rfl⟩ | ⟨a, c, rfl, h1, h2, rfl⟩
      · refine ⟨by rw [wback_len]; simp [ce.1], fun i c q => ?_⟩
        obtain ⟨a, g1, g2⟩ := old i c q
        exact ⟨a, by show (p.rho ++ [])[i]? = _; rw [List.append_nil]; exact g1, g2⟩
      · refine ⟨by simp [wback_len, ce.1], fun i d q => ?_⟩
        by_cases hi : i < l.length
        · rw [List.getElem?_append_left (by rw [wback_len]; exact hi)] at q
          obtain ⟨b, g1, g2⟩ := old i d q
          exact ⟨b, by show (p.rho ++ [a])[i]? = _; rw [List.getElem?_append_left (by omega)]; exact g1, g2⟩
        · have hi' : i = l.length := by
            have := (List.getElem?_eq_some_iff.mp q).1
            simp only [List.length_append, wback_len, List.length_singleton] at this
            omega
          subst hi'
          rw [List.getElem?_append_right (by rw [wback_len]; exact Nat.le_refl _), wback_len] at q
          simp at q
          subst q
          obtain ⟨b, g1, g2⟩ := c'.2 _ _ h2
          rw [h1] at g1
          cases g1
          exact ⟨a, by show (p.rho ++ [a])[l.length]? = _; rw [hlen, List.getElem?_append_right (Nat.le_refl _)]; simp, g2.hf hf rfl fun z => z⟩
    refine ⟨⟨p.H, addrs p ns, p.F⟩, relab vs 0, cs, _, _, rfl, wc, cc, relab_ok (t := []) r (by simp [hns]) rfl, ?_, hfs, fun d l' v p' e w' c' r' q => ?_, fun ex l' cls dd p' e w' c' x q => ?_⟩
    · rw [← hl]
      have : ∀ (vs : List P) (i : Nat), (relab vs i).length = vs.length := by
        intro vs
        induction vs with
        | nil => intro i; rfl
        | cons v r ih => intro i; cases v <;> simp [relab, ih]
      exact this vs 0
    · unfold callB at q
      split at q
      · rename_i x
        obtain ⟨E2, W2, C2⟩ := back p' l' [] _ e w' c' (.inl ⟨rfl, rfl⟩)
        exact k (.d x) _ v ⟨p'.H, p.rho ++ [], p'.F⟩ E2 W2 C2 (show RP K ⟨p'.H, p.rho ++ [], p'.F⟩ (.d x) v from RD.mono (p := p') (p' := ⟨p'.H, p.rho ++ [], p'.F⟩) ⟨fun _ z => z, fun _ _ z _ => z, fun _ _ z => z⟩ r') q
      · rename_i j
        obtain ⟨a, h1, rfl⟩ := r'
        split at q
        · rename_i hj
          obtain ⟨E2, W2, C2⟩ := back p' l' [] _ e w' c' (.inl ⟨rfl, rfl⟩)
          obtain ⟨b, h2, h3⟩ := lt j _ (List.getElem?_eq_getElem hj)
          obtain ⟨u, hu⟩ := e.pre
          have h4 : p'.rho[j]? = some b := by rw [hu]; exact (List.getElem?_append_left (by simpa [addrs] using hj)).trans h3
          rw [h1] at h4
          cases h4
          refine k (.loc (ns.getD j 0)) _ (.ref a) ⟨p'.H, p.rho ++ [], p'.F⟩ E2 W2 C2 (show RP K ⟨p'.H, p.rho ++ [], p'.F⟩ (.loc (ns.getD j 0)) (.ref a) from ⟨a, ?_, rfl⟩) q
          show (p.rho ++ [])[ns.getD j 0]? = _
          rw [List.append_nil, List.getD_eq_getElem?_getD, List.getElem?_eq_getElem hj]
          exact h2
        · rename_i hj
          split at q
          · rename_i hjn
            subst hjn
            split at q
            · rename_i c hc
              obtain ⟨b, g1, g2⟩ := c'.2 _ _ hc
              rw [h1] at g1
              cases g1
              obtain ⟨E2, W2, C2⟩ := back p' l' [a] _ e w' c' (.inr ⟨a, c, rfl, h1, hc, rfl⟩)
              refine k (.loc l.length) _ (.ref a) ⟨p'.H, p.rho ++ [a], p'.F⟩ E2 W2 C2 (show RP K ⟨p'.H, p.rho ++ [a], p'.F⟩ (.loc l.length) (.ref a) from ⟨a, ?_, rfl⟩) q
              show (p.rho ++ [a])[l.length]? = _
              rw [ce.1, List.getElem?_append_right (Nat.le_refl _)]
              simp
            · exact q.elim
          · exact q.elim
      · exact q.elim
    · obtain ⟨E2, W2, C2⟩ := back p' l' [] _ e w' c' (.inl ⟨rfl, rfl⟩)
      exact kx ex _ cls dd ⟨p'.H, p.rho ++ [], p'.F⟩ E2 W2 C2 (XR.mono (p := p') (p' := ⟨p'.H, p.rho ++ [], p'.F⟩) ⟨fun _ z => z, fun _ _ z _ => z, fun _ _ z => z⟩ x) q
  · exact h.elim
end
/-- a def as it may be called by its name -/
def CalQ (P : Program) (w : World) (K : PySem.W.Frag) (mg : Str → Option Value) (base : Heap) (k : Nat) (x : Str) (n : Nat) (fs : FS) : Prop :=
  ∃ f fd ps, FnOk P w K mg base (L2N.CX P w) k f fd ps (spQ K n fs) ∧ mg x = some (.ref f) ∧ PySem.W.keepIn K (.ref f) = true ∧ Binds K fd ps []
section
variable {X : Cx} {W : WX} {e : Expr} {es : List Expr} {ws : WA} {pos q : Pos} {x : Str} {fs : FS} {k j n : Nat}
def kCall (n : Nat) (fs : FS) (Q : P → LS → Prop) (E : EK) (vs : List P) (l : LS) : Prop := vs.length = n ∧ callP fs vs l Q E
def wCall (n : Nat) (fs : FS) (ws : WA) (σ : SS) (l : LS) (Q : P → LS → Prop) (E : EK) : Prop := ws σ l (kCall n fs Q E) E
theorem qe_call (c : CalQ X.prog X.w X.K X.mg X.base k x n fs) (hr : Room j X.A) (hk : k ≤ j) (tk : L2N.Takes X W) (hg : Gl X x) (ha : QA X W (e :: es) ws)
    (hdb : (x == ("__debug__" : Str)) = false := by decide) (he : starEach (e :: es) X.env = (false, eval e X.env) :: starEach es X.env := by rfl) (hpl : (backTo pos (starEach es X.env)).any (·.1) = false := by rfl) :
    QE X W (.Call (.Name x q) (e :: es) [] pos) (wCall n fs ws) := by
  obtain ⟨f, fd, ps, F, hm, hkp, hb⟩ := c
  refine PE.imp (pe_callS (E := fun σ => L2.WE W σ) F (hr.mono hk) hg hm hkp hb (fun σ => L2N.passAt tk σ) ha hdb he hpl) fun σ H Q ⟨p, σd, l, Qd, Ed, hH, R, hw, kk, lk⟩ => ?_
  subst hH
  exact cA_ok R hw lk fun vs l1 us p1 e1 R1 r1 q1 => call_ok R1.wf R1.ce r1 q1.1 q1.2 (fun d l' v p' e' w' c' r' q' => kk d l' v p' (e1.trans e') (R1.ext e' w' c') r' q') fun ex l' cls dd p' e' w' c' x q => lk ex l' cls dd p' (e1.trans e') (R1.ext e' w' c') x q
end
end QL
set_option Elab.async false
set_option linter.all false
set_option maxRecDepth 100000
set_option maxHeartbeats 4000000
/-! QL7: short words for the readings of defs. -/
namespace QL
open PySem L2
theorem qi_lst {X : Cx} {W : WX} {tg e : Expr} {we : WE} (h : QE X W e we) : QI X W tg e (iLst we) := qi_list h (pi_list h)
section
variable {g : WG} {tb : WS} {D : ED} {σ : SS} {l : LS}
/-- a loop over things that stay -/
theorem loopX {xs : List QL.D} (Iv : Nat → SS → LS → Prop) (h0 : Iv 0 σ l)
    (ht : ∀ i x σ l, xs[i]? = some x → Iv i σ l → g (.d x) σ l (kTurn tb D (Iv (i + 1)))) (hd : ∀ σ l, Iv xs.length σ l → D.nx σ l) : loopP ⟨xs, okAll⟩ g tb D σ l :=
  ⟨Iv, h0, fun _ _ _ _ => True.intro, ht, hd⟩
theorem loopR {lo : Int} {n : Nat} (Iv : Nat → SS → LS → Prop) (h0 : Iv 0 σ l)
    (ht : ∀ (i : Nat) σ l, i < n → Iv i σ l → g (.d (.int (lo + i))) σ l (kTurn tb D (Iv (i + 1)))) (hd : ∀ σ l, Iv n σ l → D.nx σ l) : loopP ⟨rangeD lo n, okAll⟩ g tb D σ l :=
  loopX Iv h0 (fun i x σ l e h => by
    obtain ⟨h1, rfl⟩ := rangeD_get e
    exact ht i σ l h1 h) (by rw [rangeD_len]; exact hd)
theorem loopC {lo c : Int} {n : Nat} (Iv : Nat → SS → LS → Prop) (h0 : Iv 0 σ l)
    (ht : ∀ (i : Nat) σ l, i < n → Iv i σ l → g (.d (.int (lo + i * c))) σ l (kTurn tb D (Iv (i + 1)))) (hd : ∀ σ l, Iv n σ l → D.nx σ l) : loopP ⟨rangeC lo c n, okAll⟩ g tb D σ l :=
  loopX Iv h0 (fun i x σ l e h => by
    obtain ⟨h1, rfl⟩ := rangeC_get e
    exact ht i σ l h1 h) (by rw [rangeC_len]; exact hd)
/-- a while by an invariant and a measure -/
def kMs (Iv : SS → LS → Prop) (μ : SS → LS → Nat) (m : Nat) (σ : SS) (l : LS) : Prop := ∃ m', m' < m ∧ m' = μ σ l ∧ Iv σ l
theorem whileI {wt : WT} (Iv : SS → LS → Prop) (μ : SS → LS → Nat) (h0 : Iv σ l) (h : ∀ σ l, Iv σ l → wt σ l (kWh tb D (kMs Iv μ (μ σ l)) σ) (exK D σ)) : whileP wt tb D σ l := by
  refine ⟨fun m σ l => m = μ σ l ∧ Iv σ l, ⟨_, rfl, h0⟩, ?_⟩
  rintro m σ l ⟨rfl, hi⟩
  exact h σ l hi
/-- [elt for x in xs], what an item gives may hang on the cells -/
def kIt (Iv : Nat → List QL.D → LS → Prop) (n i : Nat) (acc : List QL.D) (l : LS) : Prop := (acc.length = i ∧ i ≤ n) ∧ Iv i acc l
theorem lcI {xs : List QL.D} {te : WE} {vs : List Nat} {f : Fresh} {Q : P → LS → Prop} (Iv : Nat → List QL.D → LS → Prop) (hz : xs.length < sizeLine) (h0 : Iv 0 [] l)
    (ht : ∀ i x acc l, xs[i]? = some x → acc.length = i → Iv i acc l → g (.d x) (wipeD σ vs) l (kLcT wYes te vs σ (kIt Iv xs.length (i + 1)) acc)) (hd : ∀ acc l, acc.length = xs.length → Iv xs.length acc l → freshL f acc l Q) : lcP ⟨xs, okAll⟩ g wYes te vs f σ l Q :=
  ⟨kIt Iv xs.length, ⟨⟨rfl, Nat.zero_le _⟩, h0⟩, fun i acc l h => ⟨True.intro, by have := h.1; show acc.length < sizeLine; omega⟩, fun i x acc l e h => ht i x acc l e h.1.1 h.2, fun acc l h => hd acc l h.1.1 h.2⟩
end
/-- over a list in a cell -/
theorem lcC {xs : List D} {ok : LS → Prop} {g : WG} {σ : SS} {l : LS} {te : WE} {vs : List Nat} {f : Fresh} {Q : P → LS → Prop} (Iv : Nat → List D → LS → Prop) (hz : xs.length < sizeLine) (h0 : Iv 0 [] l) (hok : ∀ i acc l, Iv i acc l → ok l)
    (ht : ∀ i x acc l, xs[i]? = some x → acc.length = i → Iv i acc l → g (.d x) (wipeD σ vs) l (kLcT wYes te vs σ (kIt Iv xs.length (i + 1)) acc)) (hd : ∀ acc l, acc.length = xs.length → Iv xs.length acc l → freshL f acc l Q) : lcP ⟨xs, ok⟩ g wYes te vs f σ l Q :=
  ⟨kIt Iv xs.length, ⟨⟨rfl, Nat.zero_le _⟩, h0⟩, fun i acc l h => ⟨hok _ _ _ h.2, by have := h.1; show acc.length < sizeLine; omega⟩, fun i x acc l e h => ht i x acc l e h.1.1 h.2, fun acc l h => hd acc l h.1.1 h.2⟩
theorem loopA {I : Items} {g : WG} {tb : WS} {D : ED} {σ : SS} {l : LS} (Iv : Nat → SS → LS → Prop) (h0 : Iv 0 σ l) (hok : ∀ i σ l, Iv i σ l → I.ok l)
    (ht : ∀ i x σ l, I.xs[i]? = some x → Iv i σ l → g (.d x) σ l (kTurn tb D (Iv (i + 1)))) (hd : ∀ σ l, Iv I.xs.length σ l → D.nx σ l) : loopP I g tb D σ l := ⟨Iv, h0, hok, ht, hd⟩
theorem atI_m {α β : Type} {ns : List α} {f : α → β} {k : Int} {j : Nat} {x : α} (hk : k = (j : Int)) (hx : ns[j]? = some x) : atI (ns.map f) k = some (f x) := by
  subst hk
  have hj := (List.getElem?_eq_some_iff.mp hx).1
  unfold atI ixN
  rw [List.length_map, if_pos (by omega), if_pos (by omega)]
  simp [hx]
theorem atI_n {α : Type} {ns : List α} {k : Int} {j : Nat} {x : α} (hk : k = (j : Int)) (hx : ns[j]? = some x) : atI ns k = some x := by
  subst hk
  have hj := (List.getElem?_eq_some_iff.mp hx).1
  unfold atI ixN
  rw [if_pos (by omega), if_pos (by omega)]
  simp [hx]
theorem ixN_n {n j : Nat} {k : Int} (hk : k = (j : Int)) (h : j < n) : ixN n k = some j := by
  subst hk
  unfold ixN
  rw [if_pos (by omega), if_pos (by omega)]
  simp
theorem get_at {α : Type} {xs : List α} {i : Nat} (h : i < xs.length) : xs[i]? = some xs[i] := List.getElem?_eq_getElem h
theorem dOk_int {n : Nat} {i : Int} : dOk n (.int i) ↔ True := by cases n <;> simp [dOk]
theorem dOk_non {n : Nat} : dOk n .non ↔ True := by cases n <;> simp [dOk]
theorem dOk_bl {n : Nat} {b : Bool} : dOk n (.bl b) ↔ True := by cases n <;> simp [dOk]
theorem dOk_ints {n : Nat} {ns : List Int} : dOk (n + 1) (.tup (ns.map .int)) ↔ True := by
  simp only [dOk_tup, List.mem_map, forall_exists_index, and_imp, forall_apply_eq_imp_iff₂, dOk_int, implies_true]
theorem dOk_lints {n : Nat} {ns : List Int} : dOk (n + 1) (.lst (ns.map .int)) ↔ True := by
  simp only [dOk_lst, List.mem_map, forall_exists_index, and_imp, forall_apply_eq_imp_iff₂, dOk_int, implies_true]
theorem dOk_nil {n : Nat} : dOk (n + 1) (.tup []) ↔ True := by simp [dOk_tup]
theorem dOk_cons {n : Nat} {x : D} {xs : List D} : dOk (n + 1) (.tup (x :: xs)) ↔ dOk n x ∧ dOk (n + 1) (.tup xs) := by simp [dOk_tup]
theorem noB_int {i : Int} : noB (.int i) ↔ True := by simp [noB]
theorem noB_non : noB .non ↔ True := by simp [noB]
theorem noB_str {x : Str} : noB (.str x) ↔ True := by simp [noB]
theorem noB_nil : noB (.tup []) ↔ True := by simp [noB]
theorem noB_cons {x : D} {xs : List D} : noB (.tup (x :: xs)) ↔ noB x ∧ noB (.tup xs) := by simp [noB]
theorem noB_ints {ns : List Int} : noB (.tup (ns.map .int)) ↔ True := by
  simp only [noB, List.mem_map, forall_exists_index, and_imp, forall_apply_eq_imp_iff₂, implies_true]
theorem rng_snoc {α : Type} {y : Nat → α} {acc : List α} {i : Nat} (h : acc = (List.range i).map y) : acc ++ [y i] = (List.range (i + 1)).map y := by
  rw [List.range_succ, List.map_append, h]
  rfl
/-! the size of data -/
mutual
def D.sz : D → Nat
  | .tup xs => 1 + D.szs xs
  | .lst xs => 1 + D.szs xs
  | _ => 1
def D.szs : List D → Nat
  | [] => 0
  | x :: xs => x.sz + D.szs xs
end
theorem szs_app : ∀ xs ys : List D, D.szs (xs ++ ys) = D.szs xs + D.szs ys
  | [], ys => by simp [D.szs]
  | x :: xs, ys => by simp only [List.cons_append, D.szs, szs_app xs ys]; omega
theorem sz_pos (x : D) : 1 ≤ x.sz := by cases x <;> simp [D.sz]
theorem len_szs : ∀ xs : List D, xs.length ≤ D.szs xs
  | [] => Nat.le_refl _
  | x :: xs => by
    have := len_szs xs
    have := sz_pos x
    simp only [List.length_cons, D.szs]
    omega
theorem last_split {α : Type} {xs : List α} (h : xs ≠ []) : ∃ (ys : List α) (y : α), xs = ys ++ [y] ∧ xs[xs.length - 1]? = some y ∧ xs.dropLast = ys := by
  refine ⟨xs.dropLast, xs.getLast h, (List.dropLast_concat_getLast h).symm, ?_, rfl⟩
  rw [← List.getLast?_eq_getElem?, List.getLast?_eq_some_getLast h]
theorem atI_cons1 {α : Type} {x y : α} {r : List α} : atI (x :: y :: r) 1 = some y := atI_n (j := 1) rfl rfl
theorem atI_cons2 {α : Type} {x y z : α} {r : List α} : atI (x :: y :: z :: r) 2 = some z := atI_n (j := 2) rfl rfl
theorem cutTake {α : Type} {xs : List α} {k : Nat} : cutD xs none (some (k : Int)) = xs.take k := by
  unfold cutD
  rw [HT.sIx_none, HT.sIx_nat]
  simp only [List.drop_zero, Nat.sub_zero]
  rw [Nat.min_comm, ← List.take_take]
  exact List.take_of_length_le (by simp; omega)
theorem atI_cons0 {α : Type} {x : α} {r : List α} : atI (x :: r) 0 = some x := atI_n (j := 0) rfl rfl
theorem seqIx0 {n : Nat} : seqIndex? 0 (n + 1) = some 0 := by
  unfold seqIndex?
  simp
theorem ixN0 {n : Nat} : ixN (n + 1) 0 = some 0 := ixN_n (j := 0) rfl (by omega)
theorem pos_len (n : Nat) : (0 : Int) < ((n + 1 : Nat) : Int) ↔ True := ⟨fun _ => True.intro, fun _ => by omega⟩
theorem ne_len (n : Nat) : ((n + 1 : Nat) : Int) = 0 ↔ False := ⟨fun h => by omega, False.elim⟩
theorem nodup1 {n : Nat} : [n].Nodup ↔ True := by simp
theorem cut63 {α : Type} {xs : List α} {k : Nat} (h : xs.length ≤ k) : cutD xs none (some (k : Int)) = xs := by
  unfold cutD
  rw [HT.sIx_none, HT.sIx_nat]
  simp [Nat.min_eq_right h]
end QL
set_option Elab.async false
set_option linter.all false
set_option maxRecDepth 100000
set_option maxHeartbeats 4000000
/-! QL8: the law's own head. -/
namespace QL
open PySem L2
theorem rds_ints {K : PySem.W.Frag} {p : Pt} : ∀ ns : List Int, RDs K p (ns.map .int) (ns.map V.int)
  | [] => .nil
  | _ :: r => .cons (.int _) (rds_ints r)
def endD (r : P) (_ : LS) : Prop := r = .d (.bl true)
def endX : EK := fun _ _ => False
theorem end_sp {K : PySem.W.Frag} {H : Hp} {a : Addr} {ns : List Int} {fs : FS} (hO : Only H) (hS : SqL K H a (ns.map V.int)) (hfs : fs [.d (.scr (ns.map .int))] [] endD endX) :
    spQ K 1 fs [.ref a] H (fun v _ => v = .bl true) (fun _ _ _ => False) := by
  have hs : ScrAt K ⟨H, [], fun b => H b ≠ none⟩ a (ns.map V.int) := by
    rcases hS with h | h
    · refine .inl ⟨?_, h⟩
      rcases h with h | ⟨o, h⟩
      · show H a ≠ none
        rw [h]; intro e; cases e
      · show H a ≠ none
        rw [h]; intro e; cases e
    · exact .inr (.inr h)
  have wf : WF ⟨H, [], fun b => H b ≠ none⟩ := ⟨List.nodup_nil, fun a h => absurd h List.not_mem_nil, fun b hb => Option.ne_none_iff_exists'.mp hb⟩
  have ce : Cells K ⟨H, [], fun b => H b ≠ none⟩ [] := ⟨rfl, fun i c h => by simp at h⟩
  have rr : RP K ⟨H, [], fun b => H b ≠ none⟩ (.d (.scr (ns.map .int))) (.ref a) := RD.scr hs (rds_ints ns)
  refine ⟨⟨H, [], fun b => H b ≠ none⟩, _, [], endD, endX, rfl, wf, ce, .cons rr .nil, rfl, hfs, fun d l' v p' _ _ _ r q => ?_, fun ex l' cls dd p' _ _ _ _ q => q.elim⟩
  cases q
  cases r
  rfl
theorem end_cx {P : Program} {w : World} {H : Hp} {s : Shared} {e : Value} {s' : Shared} (h : L2N.CX P w [] H s (fun _ _ _ => False) e s') : False := by
  obtain ⟨_, _, _, _, _, _, _, _, _, _, _, _, h⟩ := h
  exact h
theorem calq {P : Program} {w : World} {K : PySem.W.Frag} {mg : Str → Option Value} {base : Heap} {k : Nat} {x : Str} {n : Nat} {fs : FS} {f : Addr} {fd : FuncData} {st : Stmt} {ps : List Str} (F : Fun K x x st f fd) (hm : mg x = some (.ref f)) (ok : FnOk P w K mg base (L2N.CX P w) k f fd ps (spQ K n fs))
    (h : ∀ (kV doc pm : Value) (an : Option Addr) (cdv ct : Value) (us : List Value), us.length = ps.length → bindArgs (PySem.W.fnOf x x (defArgs st) (defBody st) (defScope st) .none kV doc pm an cdv ct) ⟨us, []⟩ = pure (ps.zip us)) : CalQ P w K mg base k x n fs :=
  ⟨f, fd, ps, ok, hm, F.kp, F.binds h⟩
end QL
set_option Elab.async false
set_option linter.all false
set_option maxRecDepth 100000
set_option maxHeartbeats 4000000
/-! QX1: an own exception class whose __init__ begins with super().__init__('..'). -/
namespace QL
open PySem L2 PySem.Calls PyProof.Rows

/-! ### the bound __init__ is called -/
section
variable {prog : Program} {w : World} {A : Around} {E : Value → Shared → Prop} {s : Shared} {K : PySem.W.Frag} {h : Heap} {g : Array GenState} {d : Drawn} {t : Nat} {os : OsState}
theorem call_mw {B newId i : String} {bmB : List Value} {nm q : Str} {C N : Addr} {bs bm : List Value} {hdct : Bool} {sn : List Str} {sub : List Value} {ab : Bool} {col : Option Bool} {dd : Option Addr} {k0 k1 k2 k3 k5 : Option Value} {u e t0 : Addr} {rest : List Value} {Q : Value → Shared → Prop}
    (FB : ExcBaseFacts B newId i bmB) (hC : h.get? C = some (excClassObj nm q C N bs bm hdct sn sub ab col dd k0 k1 k2 k3 k5 newId)) (he : h.get? e = some (PySem.HandSPX.excO C t0)) (hu : h.get? u = some (PySem.W.kxs_mw i e)) (hrest : rest.length ≤ sizeLine)
    (hq : ∀ h' t1, (∀ b o, b ≠ e → h.get? b = some o → h'.get? b = some o) → h'.get? e = some (PySem.HandSPX.excO C t1) → Q .none ⟨h', g, d, t, os⟩) :
    wpAny (model prog w) A (call (.ref u) rest) Q E ⟨h, g, d, t, os⟩ := by
  refine wpAny_call (codeAny_of_tree ?_)
  show wpAny _ A.in1 (callAny (.ref u) ⟨rest, []⟩) _ _ _
  simp only [callAny]
  refine wpAny_bind (wpAny_load hu ?_)
  simp only [PySem.W.kxs_mw, show (Value.type "method-wrapper" == Value.type "method" || Value.type "method-wrapper" == Value.type "builtin_function_or_method" || Value.type "method-wrapper" == Value.type "method-wrapper") = true by decide, if_true]
  refine W.KFB.if_so (by decide) ?_
  refine wpAny_bind (PySem.W.check_bound_init FB.toExcCallFacts hC he rfl ?_)
  refine wpAny_bind (wpAny_pure (wpAny_pure ?_))
  refine ⟨PySem.plainId_quiet FB.init.plain _, codeAny_builtin FB.initEntry ?_⟩
  exact PySem.W.exc_init_tree (cls := .ref C) (t0 := t0) (dv := none) (c2 := .none) (c3 := .none) (b4 := .bool false) he hrest fun h' k e' _ => hq h' _ k e'
end

/-! ### the context of such an __init__ -/
def cxS (CX : CXT) (P : Program) (w : World) (K : PySem.W.Frag) (mg : Str → Option Value) (base : Heap) (N : List Str) (qual : Str) (scope : Scope) (f : Addr) (cd : Value) (cc : Addr) (A : Around) (outer : List Env) (s : Shared) (H : Hp) (E : XK) : Cx where
  prog := P
  w := w
  K := K
  mg := mg
  base := base
  A := A.deeper (PySem.W.ksEnv qual scope s.heap.objs.size f cd cc)
  N := N
  s_0 := s
  H_0 := H
  env := PySem.W.ksEnv qual scope s.heap.objs.size f cd cc
  outer := outer
  stack := PySem.W.ksEnv qual scope s.heap.objs.size f cd cc :: outer
  ex := []
  calm := true
  fn := fun _ => false
  pn := []
  xe := fun e s' => wpAny (model P w) (A.deeper (PySem.W.ksEnv qual scope s.heap.objs.size f cd cc)) (leaving (PySem.W.ksEnv qual scope s.heap.objs.size f cd cc) e) (fun _ s'' => CX outer H s E e s'') (fun e' s'' => CX outer H s E e' s'') s'
structure SupScope (N ps : List Str) (sc : Scope) : Prop where
  kind : sc.kind = .function
  co : sc.isCoroutine = false
  gen : sc.isGenerator = false
  nd : N.Nodup
  pre : N.take ps.length = ps
  par : ∀ x ∈ ps, sc.names.lookup x = some .local
  nocell : ∀ y ∈ sc.names, y.2 ≠ .cell
  free : ∀ y ∈ sc.names, y.2 = .free → y.1 = "__class__"
  sup : sc.names.lookup ("super" : Str) = some .globalImplicit
  cls : sc.names.lookup ("__class__" : Str) = some .free

theorem zip_look {x : Str} {v : Value} : ∀ {P : List Str} {vs : List Value} {i : Nat}, P.Nodup → P[i]? = some x → vs[i]? = some v → (P.zip vs).reverse.lookup x = some v
  | [], _, _, _, h, _ => by simp at h
  | _ :: _, [], _, _, _, h => by simp at h
  | p :: P, w :: vs, 0, nd, h1, h2 => by
    simp at h1 h2; subst h1; subst h2
    rw [List.zip_cons_cons, List.reverse_cons, List.lookup_append]
    have : (P.zip vs).reverse.lookup p = none := by
      rw [List.lookup_eq_none_iff]
      intro y hy
      have hy := List.of_mem_zip (List.mem_reverse.mp hy)
      have : y.1 ≠ p := fun e => (List.nodup_cons.mp nd).1 (e ▸ hy.1)
      simpa [bne_iff_ne] using fun e : p = y.1 => this e.symm
    rw [this]
    simp
  | p :: P, w :: vs, i + 1, nd, h1, h2 => by
    rw [List.zip_cons_cons, List.reverse_cons, List.lookup_append, zip_look (i := i) (List.nodup_cons.mp nd).2 (by simpa using h1) (by simpa using h2)]
    rfl
theorem inv_sup {CX : CXT} {P : Program} {w : World} {K : PySem.W.Frag} {mg : Str → Option Value} {base : Heap} {N ps : List Str} {qual : Str} {scope : Scope} {f cc : Addr} {cd : Value} {A : Around} {outer : List Env} {s : Shared} {H : Hp} {E : XK} {us : List Value} {vs : List V} {h1 : Heap} {tk : Nat} {cl : Value} {cld : Option Addr} {csl : Array (Option Value)} {C : Addr}
    (S : SupScope N ps scope) (hcell : K.lookup cc = some ⟨cl, cld, .cell (some (.ref C)), csl⟩) (hd : A.handled = none) (e0 : Env0 P w K mg base A outer s H) (hl : vs.length = ps.length) (r : Vals vs us)
    (hns : h1.Ns s.heap.objs.size (fun x => (ps.zip us).reverse.lookup x)) (hk : ∀ b o, s.heap.get? b = some o → h1.get? b = some o) :
    Inv (cxS CX P w K mg base N qual scope f cd cc A outer s H E) [] (start N vs) H { s with heap := h1, toks := tk } := by
  have hpl : ps.length ≤ N.length := by have := congrArg List.length S.pre; rw [List.length_take] at this; omega
  have noA : ∀ b : Addr, b ∉ (cxS CX P w K mg base N qual scope f cd cc A outer s H E).ex := fun b z => absurd (show b ∈ ([] : List Addr) from z) (by simp)
  have one : ∀ (x : Str) (c : Addr), ([("__class__", cc)] : List (Str × Addr)).lookup x = some c → x = "__class__" ∧ c = cc := fun x c h => by
    by_cases e : x = "__class__"
    · subst e
      simp at h
      exact ⟨rfl, h.symm⟩
    · rw [List.lookup_cons, show (x == ("__class__" : Str)) = false by simpa using e] at h
      cases h
  have hcb : base.get? cc = some ⟨cl, cld, .cell (some (.ref C)), csl⟩ := e0.mod.kin _ _ hcell
  have hcs := e0.bs _ _ hcb
  refine ⟨⟨e0.mod, S.kind, rfl, rfl, Nat.le_refl _, fun y z c h1 h2 => ?_, fun y hy => ?_, fun y c z _ => absurd (show false = true from z) (by decide), fun _ => hd, Around.frames_deeper e0.frames, .inr ⟨rfl, rfl⟩, fun b z => absurd z (noA b), e0.bs, e0.bsz, fun b _ _ => noA b, fun b z => absurd z (noA b), e0.funs, e0.frf⟩,
    rfl, e0.bare, Un.kept hk, ⟨_, hns, fun i y v h1 h2 h3 => ?_⟩, fun y c h => ?_, e0.hok.fresh (Nat.le_refl _), fun y c h => ?_, fun p hp => absurd (show p ∈ ([] : List (Addr × Obj)) from hp) (by simp), e0.hok.kept hk, ?_⟩
  · rw [(one _ _ h1).1, (one _ _ h2).1]
  · have hy : scope.names.lookup y = some .cell ∨ scope.names.lookup y = some .free := hy
    rcases hy with hy | hy
    · exact absurd rfl (S.nocell _ (PySem.mem_of_lookup hy))
    · have e : y = "__class__" := S.free (y, .free) (PySem.mem_of_lookup hy) rfl
      subst e
      exact ⟨cc, rfl⟩
  · have hi : i < vs.length := by
      unfold L2.start at h2
      by_cases hi : i < vs.length
      · exact hi
      · rw [List.getElem?_append_right (by simpa using hi)] at h2
        rw [List.getElem?_replicate] at h2
        split at h2 <;> cases h2
    have ha : vs[i]? = some v := by
      unfold L2.start at h2
      rw [List.getElem?_append_left (by simpa using hi), List.getElem?_map] at h2
      cases e : vs[i]? with
      | none => rw [e] at h2; cases h2
      | some a => rw [e] at h2; cases h2; rfl
    obtain ⟨u, hu, rv⟩ := r.get ha
    have hp : ps[i]? = some y := by
      rw [← S.pre, List.getElem?_take_of_lt (by omega)]; exact h1
    have ndP : ps.Nodup := by rw [← S.pre]; exact S.nd.sublist (List.take_sublist _ _)
    exact ⟨u, rv, .inl ⟨S.par y (List.mem_of_getElem? hp), zip_look ndP hp hu⟩⟩
  · obtain ⟨rfl, rfl⟩ := one _ _ h
    exact ⟨_, _, hk _ _ hcs.1, rfl⟩
  · obtain ⟨rfl, rfl⟩ := one _ _ h
    exact hcs.2
  · unfold L2.start
    show _ = N.length
    rw [List.length_append, List.length_map, List.length_replicate]
    omega

theorem fn_super {CX : CXT} {P : Program} {w : World} {K : PySem.W.Frag} {mg : Str → Option Value} {base : Heap} {k : Nat} {f cda cc C : Addr} {name qual msg : Str} {params : Arguments} {rest : List Stmt} {scope : Scope} {z : Nat} {p0 p1 p2 p3 p4 pz : Pos} {dV kV doc pm ct oc ccl cl : Value} {an od cdd cld : Option Addr}
    {osl ccs csl : Array (Option Value)} {vs0 : Array Value} {file : Str} {tf : Tok} {ar : Arg} {N ps : List Str} {sp : Sp}
    (lk : K.lookup f = some ⟨oc, od, .func (PySem.W.ksFn name qual params (.Expr (.Call (.Attribute (.Call (.Name "super" p0) [] [] p1) "__init__" p2) [.Constant (.str msg) z pz] [] p3) p4 :: rest) scope dV kV doc pm an (.ref cda) ct cc), osl⟩)
    (hcd : PySem.W.codeIn K (.ref cda) qual = true) (hcode : K.lookup cda = some ⟨ccl, cdd, .fields vs0, ccs⟩) (hvs : vs0[2]? = some (.str file tf)) (hfile : ((P.main.file : Str) == file) = true) (htop : (P.main.scope.names.lookup ("super" : Str)).isSome = false)
    (hcell : K.lookup cc = some ⟨cl, cld, .cell (some (.ref C)), csl⟩) (T : OexC K C) (hsi : PySem.W.ks_superIn K C C "__init__" = some (some (.builtin "ValueError.__init__"))) (hB : PySem.W.subIn K (.ref C) (.type "ValueError") = some true)
    (hop : PySem.W.nsIn K cStatics "thirdparty.any" = some none) (hmg : mg "super" = none)
    (hev : ∀ env : Env, ∃ pl : Sem Bool, eval (.Call (.Attribute (.Call (.Name "super" p0) [] [] p1) "__init__" p2) [.Constant (.str msg) z pz] [] p3) env = (do
      let ov ← attributeBase (.Call (.Name "super" p0) [] [] p1) "__init__" env (eval (.Call (.Name "super" p0) [] [] p1) env)
      standAt p2.atName
      let (f, first) ← holding [ov] (getMethod ov "__init__" pl)
      callWith p3 f first (backTo p3 (starEach [.Constant (.str msg) z pz] env)) []))
    (S : SupScope N ps scope) (hp : (params.posonlyargs ++ params.args).head? = some ar) (h0 : ps[0]? = some ar.arg) (len : ∀ vs H Q E, sp vs H Q E → vs.length = ps.length)
    (hbody : ∀ (A : Around) (outer : List Env) (s : Shared) (H : Hp) (vs : List V) (Q : VK) (E : XK), Room k (A.deeper (PySem.W.ksEnv qual scope s.heap.objs.size f (.ref cda) cc)) → sp vs H Q E →
      (∃ a vs', vs = .ref a :: vs' ∧ H a = some (exo a C none)) ∧ ∃ t, PSs (cxS CX P w K mg base N qual scope f (.ref cda) cc A outer s H E) rest t ∧ t { nx := fun _ H' => Q .non H', rt := Q } (L2.start N vs) H) :
    FnOk P w K mg base CX (k + 1) f (PySem.W.ksFn name qual params (.Expr (.Call (.Attribute (.Call (.Name "super" p0) [] [] p1) "__init__" p2) [.Constant (.str msg) z pz] [] p3) p4 :: rest) scope dV kV doc pm an (.ref cda) ct cc) ps sp := by
  refine ⟨len, fun A outer s H args us vs Q E hr e0 hb r hsp => ?_⟩
  have hl := len _ _ _ _ hsp
  have KX : K.In s.heap := e0.mod.kin.keeps fun b o e => (e0.bs b o e).1
  have lim : s.heap.NoLimit := e0.mod.nolimit.keeps fun b o e => (e0.bs b o e).1
  have hloc : ∀ y ∈ ps.zip us, scope.names.lookup y.1 = some .local := fun ⟨n, v⟩ hy => S.par n (List.of_mem_zip hy).1
  refine ks_codeAny_call_defAt hr.depth (KX _ _ lk) rfl lim (PySem.W.codeRec_of KX hcd) rfl hb S.nocell hloc (fun h₁ hns hk => ?_) S.co S.gen S.kind
  obtain ⟨⟨a, vs', rfl, ea⟩, t, ht, hq⟩ := hbody A outer s H vs Q E (hr.deeper _) hsp
  have I := inv_sup (CX := CX) (E := E) (f := f) (cd := .ref cda) (qual := qual) (tk := s.toks + (ps.zip us).length) S hcell hr.hd e0 hl r hns hk
  obtain ⟨mb, hmb, hboot⟩ := e0.mod.blt
  obtain ⟨nm, q, N0, bs, bm, sn, sub, ab, col, dd, k0, k1, k2, k3, k5, hC, hbm⟩ := T.cls
  have hcl : PySem.W.clsIn K C = some { name := nm, bases := bs, mro := .ref C :: bm, ns := N0, qualname := q, hasDict := true, slotNames := sn, subclasses := sub, abstract := ab, collection := col, hasDel := false } := by unfold PySem.W.clsIn; rw [hC] <;> rfl
  have K1 : K.In h₁ := I.kIn
  obtain ⟨t0, ho⟩ := exo_at I.hok ea
  have hself : ∃ u0 ur, us = u0 :: ur ∧ u0 = .ref a := by
    cases r with
    | @cons _ u0 _ ur ra rw' => exact ⟨u0, ur, rfl, ra⟩
  obtain ⟨u0, ur, rfl, rfl⟩ := hself
  have ndP : ps.Nodup := by rw [← S.pre]; exact S.nd.sublist (List.take_sublist _ _)
  obtain ⟨pl, hev⟩ := hev (PySem.W.ksEnv qual scope s.heap.objs.size f (.ref cda) cc)
  refine ks_wpAt_execs_cons (ks_wpAt_Expr_any (ks_wpAt_MethodCall (pl := pl) ?_ hev) ?_ ?_)
  rotate_left
  · exact I.quiet
  · rfl
  refine ks_wpAt_super_base (by exact S.sup) (by exact S.cls) (by decide) rfl (K1 _ _ lk) rfl hp rfl (K1 _ _ hcode) rfl hvs hfile htop ?_
  refine PySem.W.ks_loadName_global S.kind S.sup (loadGlobal_builtin (mg := mg) (mb := mb) ?_ hmg ?_ ((hboot _ (by decide)).trans rfl) ⟨rfl, ?_⟩)
  · exact e0.mod.glob.keeps I.bk
  · exact hmb.keeps I.bk
  have hcc1 := K1 _ _ hcell
  refine wpAny_loadName_free S.kind S.cls rfl ⟨_, hcc1, rfl⟩ ?_
  refine wpAny_loadName_local S.kind (S.par _ (List.mem_of_getElem? h0)) hns (zip_look ndP h0 rfl) ?_
  have hC1 := K1 _ _ hC
  refine ks_wpAny_isType_cls hC1 rfl ⟨rfl, ?_⟩
  have hsub : PySem.W.mroIn K C (.ref C) = some true := by
    unfold PySem.W.mroIn
    rw [hcl]
    simp
  refine ks_wpAny_call_super hC1 rfl ho rfl (fun c e => by cases e) (PySem.W.looks_mroIn K1 hsub) (fun h2 e2 k2 => ?_)
  have I2 : Inv (cxS CX P w K mg base N qual scope f (.ref cda) cc A outer s H E) [] (L2.start N (V.ref a :: vs')) H ⟨h2, s.gens, s.drawn, s.toks + (ps.zip (Value.ref a :: ur)).length, s.os⟩ := I.kept k2
  have K2 : K.In h2 := I2.kIn
  have hne : a ≠ C := by
    rintro rfl
    rw [hC1] at ho
    cases ho
  have I2a : PySem.W.InstAt h2 a _ C none := ⟨k2 _ _ ho, rfl, rfl, trivial⟩
  have hal : PySem.W.alongIn K "__init__" ((((Value.ref C) :: bm).dropWhile (· != .ref C)).drop 1) = some (some (.builtin "ValueError.__init__")) := by
    have := hsi
    unfold PySem.W.ks_superIn at this
    rw [hcl] at this
    exact this
  refine PySem.W.kxs_getMethod PySem.W.kxs_ValueError e2 (PySem.W.looks_opaque K2 hop) (l₀ := .ref C :: bm) (fun A Q E s k q => wpAny_bind ((PySem.W.looks_clsIn K2 hcl) A _ E s k (wpAny_pure q))) rfl K2 hal (I2a.type.andThen (PySem.W.looks_subIn K2 hB)) hne (by decide) ?_
  have k3 : ∀ b o, h2.get? b = some o → (h2.push (PySem.W.kxs_mw "ValueError.__init__" a)).get? b = some o := fun b o e => Heap.get?_push_of_some _ e
  have I3 : Inv (cxS CX P w K mg base N qual scope f (.ref cda) cc A outer s H E) [] (L2.start N (V.ref a :: vs')) H ⟨h2.push (PySem.W.kxs_mw "ValueError.__init__" a), s.gens, s.drawn, s.toks + (ps.zip (Value.ref a :: ur)).length + 1, s.os⟩ := I2.kept k3
  have hu3 : (h2.push (PySem.W.kxs_mw "ValueError.__init__" a)).get? h2.objs.size = some (PySem.W.kxs_mw "ValueError.__init__" a) := Heap.get?_push_at rfl rfl
  have ha : PA (cxS CX P w K mg base N qual scope f (.ref cda) cc A outer s H E) [.Constant (.str msg) z pz] (tCons (tC (.str msg)) tNil) := pa_cons pe_str pa_nil
  have I3' : Inv (cxS CX P w K mg base N qual scope f (.ref cda) cc A outer s H E) [(h2.objs.size, PySem.W.kxs_mw "ValueError.__init__" a)] (L2.start N (V.ref a :: vs')) H ⟨h2.push (PySem.W.kxs_mw "ValueError.__init__" a), s.gens, s.drawn, s.toks + (ps.zip (Value.ref a :: ur)).length + 1, s.os⟩ :=
    I3.pins_of fun p hp => by
      obtain rfl := List.mem_singleton.mp hp
      exact ⟨hu3, I2.hok.fresh (Nat.le_refl _), Nat.ne_of_gt I2.lt, I2.nofs (Nat.le_refl _), fun v e => by cases e⟩
  refine PySem.W.kxs_callWith (i := "ValueError.__init__") (x := a) (u := h2.objs.size) rfl (evalArgs_plain (thn (ha.run p3 _ _ _ H (fun vs H1 => vs = [.str msg] ∧ H1 = H) I3' ⟨rfl, rfl⟩) fun us1 s4 ⟨vs4, H4, I4, r4, e4, e5⟩ => ?_))
  subst e4
  rw [e5] at I4
  have hu4 : s4.heap.get? h2.objs.size = some (PySem.W.kxs_mw "ValueError.__init__" a) := (I4.pin (h2.objs.size, PySem.W.kxs_mw "ValueError.__init__" a) (List.mem_append_right _ (List.mem_singleton_self _))).1
  refine ⟨hu4, ?_⟩
  obtain ⟨t4, ho4⟩ := exo_at I4.hok ea
  obtain ⟨h4, g4, d4, tk4, os4⟩ := s4
  have hlen : us1.length ≤ sizeLine := by
    rw [← Paired.length r4, sizeLine_eq]
    exact (show 1 ≤ 16777216 by decide)
  refine call_mw F.excBase_ValueError (I4.kIn _ _ hC) ho4 hu4 (by simpa using hlen) fun h5 t5 k5 hx5 => ?_
  have J := I4.unpinned (pins := []) |>.write (t' := tk4) (x := a) (e := a) (o := exo a C none) (by rw [ea]; exact True.intro) (.inl rfl) k5 ⟨_, hx5⟩ (exo_ok hx5)
  have eu : upd H a (exo a C none) = H := by
    funext b
    by_cases hb : b = a
    · rw [hb, upd_same, ea]
    · rw [upd_ne hb]
  rw [eu] at J
  refine wpAt_of_wpAny (wpAny_mono (ht.run [] _ (L2.start N (V.ref a :: vs')) H _ J hq) (fun fl s' hs => ?_) fun e s' hs => hs)
  have fin : ∀ {σ' : L2.St} {H' : Hp} {v : V} {u : Value}, Inv (cxS CX P w K mg base N qual scope f (.ref cda) cc A outer s H E) [] σ' H' s' → RelV v u → Q v H' → CE outer P w H s Q u s' :=
    fun {σ' H' v u} J rv q => ⟨v, H', J.os, J.bare, J.base, J.hok, rv, q⟩
  cases fl with
  | ret u =>
    obtain ⟨v, σ', H', J, rv, q⟩ := hs
    exact fin J rv q
  | next =>
    obtain ⟨σ', H', J, q⟩ := hs
    exact fin (v := V.non) (u := Value.none) J rfl q
  | brk =>
    obtain ⟨_, _, _, q⟩ := hs
    exact False.elim q
  | cont =>
    obtain ⟨_, _, _, q⟩ := hs
    exact False.elim q
end QL
set_option Elab.async false
set_option linter.all false
set_option maxRecDepth 100000
set_option maxHeartbeats 4000000
/-! QX2: raise of an own exception, over plain data. -/
namespace QL
open PySem L2

/-- the class at C is called: its __init__ runs, its exception's context is None -/
theorem mk_oexN {X : Cx} {e : Expr} {es : List Expr} {ta : TA} {pos q : Pos} {CX : CXT} {x : Str} {C fI : Addr} {k : Nat} {fd : FuncData} {ps : List Str} {sp : Sp} (T : OexC X.K C) (iC : PySem.W.findIn X.K (.ref C) "__init__" = some (some (.ref fI))) (tI : PySem.W.typeIn X.K (.ref fI) = some (.type "function"))
    (F1 : FnOk X.prog X.w X.K X.mg X.base CX k fI fd ps sp) (hr : Room (k + 1) X.A) (hb : Binds X.K fd ps []) (hx : Passes CX X (fun _ _ _ => False)) (hg : Gl X x) (hm : X.mg x = some (.ref C)) (ha : PA X (e :: es) ta)
    (hdb : (x == ("__debug__" : Str)) = false := by decide) (he : starEach (e :: es) X.env = (false, eval e X.env) :: starEach es X.env := by rfl) (hpl : (backTo pos (starEach es X.env)).any (·.1) = false := by rfl) :
    L2N.PMk X (.Call (.Name x q) (e :: es) [] pos) (tMkO C sp [] ta) := by
  intro pins s σ H Q I h
  obtain ⟨nm, qn, N, bs, bm, sn, sub, ab, col, dd, k0, k1, k2, k3, k5, hC, hbm⟩ := T.cls
  refine wpAny_Call_Name_kw (ld_glob I hg hm ?_ hdb)
  refine PySem.W.callWith_K (h₀ := X.base) I.ok.mod.kin T.kC (thn (ha.run pos pins s σ H _ I h) fun us s1 ⟨vs, H1, I1, r1, hz, q1⟩ => ⟨I1.kIn, ?_⟩) he hpl
  show wpAny _ _ (call (.ref C) us) _ _ _
  obtain ⟨hp, g, dr, tk, os⟩ := s1
  have up : hp.objs.size ≤ hp.objs.size + 1 := Nat.le_succ _
  have hq := q1 (hp.objs.size + 1) (I1.hok.fresh up)
  rw [List.append_nil] at hq
  have kk : ∀ b o, hp.get? b = some o → ((hp.push (PySem.W.kdv_tup us)).push (PySem.HandSPX.excO C hp.objs.size)).get? b = some o := fun b o e => Heap.get?_push_of_some _ (Heap.get?_push_of_some _ e)
  have I2 : Inv X pins σ (upd H1 (hp.objs.size + 1) (exo (hp.objs.size + 1) C none)) ⟨(hp.push (PySem.W.kdv_tup us)).push (PySem.HandSPX.excO C hp.objs.size), g, dr, tk, os⟩ :=
    I1.laid (t' := tk) (a := hp.objs.size + 1) (o := exo (hp.objs.size + 1) C none) (h' := (hp.push (PySem.W.kdv_tup us)).push (PySem.HandSPX.excO C hp.objs.size)) kk up (exo_ok (by heap_get))
  have r2 : Vals (V.ref (hp.objs.size + 1) :: vs) (Value.ref (hp.objs.size + 1) :: us) := .cons rfl r1
  have hl : (Value.ref (hp.objs.size + 1) :: us).length = ps.length := (Paired.length r2).symm.trans (F1.len _ _ _ _ hq)
  have hbb := hb _ (Value.ref (hp.objs.size + 1) :: us) I2.kIn (by rw [List.append_nil]; exact hl)
  rw [List.append_nil] at hbb
  refine wpAny_call (PySem.HandSPX.call_own F.excBase_ValueError (fun Y => PySem.HandSPX.refsVE_contains Y bm hbm) (I1.kIn _ _ hC) (PySem.W.looks_findIn I1.kIn iC) (fun self => PySem.W.bind_fn I1.kIn self tI) (by rw [← Paired.length r1, sizeLine_eq]; omega)
    (codeAny_mono (F1.run _ X.stack _ _ ⟨Value.ref (hp.objs.size + 1) :: us, []⟩ (Value.ref (hp.objs.size + 1) :: us) _ _ (fun _ _ _ => False) (hr.make C us []) (I2.env0.make C us []) hbb r2 hq) fun r s' hq' => ?_))
  cases r with
  | error er => exact hx pins σ _ _ er s' I2 hq'
  | ok fl =>
    cases fl with
    | ret u =>
      obtain ⟨v, H2, os2, bare2, un2, hok2, rv, ev, d, fs, ea, ed, hd1, q2⟩ := hq'
      subst ev
      obtain ⟨h2, g2, d2, t2, os'⟩ := s'
      obtain ⟨t0, G, J, kG, ge, hoe, na⟩ := mk_end0 (d2 := d2) (t2 := t2) I1 up kk un2 hok2 os2 bare2 ea ed hd1
      exact ⟨rv, _, _, _, ⟨G, g2, d2, t2, os'⟩, _, .ref C, some d, rfl, J, kG, ge, hoe, ⟨rfl, rfl, fun vs z => by cases z; rfl⟩, rfl, rfl, na, rfl, bare2, raises_own T.exC T.tyC, q2⟩
    | next => exact False.elim hq'
    | brk => exact False.elim hq'
    | cont => exact False.elim hq'
/-- what an __init__ with plain stores keeps: ns the fields in the order of the stores -/
def spI (C : Addr) (ns : List Str) : Sp := fun vs H Q _ => ∃ (a : Addr) (ws : List V), vs = .ref a :: ws ∧ ws.length = ns.length ∧ H a = some (exo a C none) ∧
  ∀ dx, H dx = none → dx ≠ a → Q .non (upd (upd H dx (exd dx (ns.zip ws).reverse)) a (exo a C (some dx)))
/-- a class of the module that is made with n arguments -/
def MkQ (P : Program) (w : World) (K : PySem.W.Frag) (mg : Str → Option Value) (base : Heap) (k : Nat) (x : Str) (ns : List Str) : Prop :=
  ∃ fI fd ps, OexC K (clsA K x) ∧ PySem.W.findIn K (.ref (clsA K x)) "__init__" = some (some (.ref fI)) ∧ PySem.W.typeIn K (.ref fI) = some (.type "function") ∧ FnOk P w K mg base (L2N.CX P w) k fI fd ps (spI (clsA K x) ns) ∧ Binds K fd ps [] ∧ mg x = some (.ref (clsA K x))
section
variable {X : Cx} {W : WX} {e : Expr} {es : List Expr} {ws : WA} {pos q pos' : Pos} {x : Str} {k j : Nat} {ns : List Str}
def kRaise (x : Str) (ns : List Str) (D : ED) (σ : SS) (vs : List P) (l : LS) : Prop := ∃ ds, asDs vs = some ds ∧ ds.length = ns.length ∧ ns.length ≤ 1000 ∧ D.ex (.own x ns.reverse ds.reverse) σ l
def wRaise (x : Str) (ns : List Str) (ws : WA) (D : ED) (σ : SS) (l : LS) : Prop := ws σ l (kRaise x ns D σ) (exK D σ)
theorem zip_rev {α β : Type} : ∀ {xs : List α} {ys : List β}, ys.length = xs.length → (xs.zip ys).reverse = xs.reverse.zip ys.reverse
  | [], [], _ => rfl
  | x :: xs, y :: ys, h => by
    have h' : ys.length = xs.length := by simpa using h
    rw [List.zip_cons_cons, List.reverse_cons, List.reverse_cons, List.reverse_cons, zip_rev h', List.zip_append (by simp [h'])]
    rfl
theorem qs_raise (hc : X.calm = true) (c : MkQ X.prog X.w X.K X.mg X.base k x ns) (hr : Room j X.A) (hk : k + 1 ≤ j) (tk : L2N.Takes X W) (hg : Gl X x) (ha : QA X W (e :: es) ws)
    (hdb : (x == ("__debug__" : Str)) = false := by decide) (he : starEach (e :: es) X.env = (false, eval e X.env) :: starEach es X.env := by rfl) (hpl : (backTo pos (starEach es X.env)).any (·.1) = false := by rfl) :
    QS X W (.Raise (some (.Call (.Name x q) (e :: es) [] pos)) none pos') (wRaise x ns ws) := by
  obtain ⟨fI, fd, ps, T, iC, tI, F1, hb, hm⟩ := c
  refine PS.imp (L2N.ps_raise hc tk (mk_oexN T iC tI F1 (hr.mono hk) hb (L2N.passes_call tk fun _ _ _ _ z => z.elim) hg hm ha hdb he hpl)) fun D σ H h => ?_
  obtain ⟨p, σd, l, Dd, hH, R, hw, kk⟩ := h
  subst hH
  refine cA_ok R hw kk.link fun vs l1 us p1 e1 R1 r1 ⟨ds, eds, hl, hn, q⟩ => ?_
  have rd := asDs_ok r1 eds
  have hul : us.length = ns.length := by rw [← rd.len, hl]
  refine ⟨by rw [hul]; exact hn, fun a hna => ⟨a, us ++ [], rfl, by rw [List.append_nil]; exact hul, upd_same, fun dx hd hne => ?_⟩⟩
  have hd1 : p1.H dx = none := by rw [upd_ne hne] at hd; exact hd
  rw [List.append_nil]
  refine ⟨rfl, dx, (ns.zip us).reverse, upd_same, by rw [upd_ne hne, upd_same], hd1, ?_⟩
  have eH : upd (del (upd (upd (upd p1.H a (exo a (clsA X.K x) none)) dx (exd dx (ns.zip us).reverse)) a (exo a (clsA X.K x) (some dx))) a) dx (.xd (ns.zip us).reverse) = (p1.frz dx (.xd (ns.zip us).reverse)).H := by
    funext b
    show upd _ _ _ b = upd p1.H dx _ b
    by_cases hb : b = dx
    · rw [hb, upd_same, upd_same]
    · rw [upd_ne hb, upd_ne hb]
      by_cases hba : b = a
      · rw [hba, del_same, hna]
      · rw [del_ne hba, upd_ne hba, upd_ne hb, upd_ne hba]
  rw [eH]
  have e2 := ext_frz (p := p1) (o := .xd (ns.zip us).reverse) hd1
  have w2 := wf_frz (p := p1) (a := dx) (o := .xd (ns.zip us).reverse) R1.wf
  have R2 := R1.ext e2 w2 (Cells.frz R1.wf R1.ce hd1)
  refine kk.ex (p1.frz dx (.xd (ns.zip us).reverse)) σ σd l1 (.own x ns.reverse ds.reverse) _ _ (e1.trans e2) R2 ⟨rfl, dx, us.reverse, rfl, .inr rfl, ?_, (rd.mono e2.hf).reverse⟩ q
  show upd _ _ _ _ = _
  rw [upd_same, zip_rev hul]
end
end QL
set_option Elab.async false
set_option linter.all false
set_option maxRecDepth 100000
set_option maxHeartbeats 4000000
/-! QX3: the __init__ of an own exception class with one or two stores. -/
namespace QL
open PySem L2

/-- what of K's objects such an __init__ needs; st is the def's statement -/
structure SupI (P : Program) (K : PySem.W.Frag) (mg : Str → Option Value) (C : Addr) (st : Stmt) (qual : Str) (f : Addr) (fd : FuncData) : Prop where
  ex : ∃ (oc : Value) (od : Option Addr) (kV doc pm : Value) (an : Option Addr) (cda cc : Addr) (ct : Value) (osl : Array (Option Value)) (ccl cl : Value) (cdd cld : Option Addr) (ccs csl : Array (Option Value)) (vs0 : Array Value) (file : Str) (tf : Tok),
    fd = PySem.W.ksFn "__init__" qual (defArgs st) (defBody st) (defScope st) .none kV doc pm an (.ref cda) ct cc ∧ K.lookup f = some ⟨oc, od, .func fd, osl⟩ ∧ PySem.W.codeIn K (.ref cda) qual = true ∧
    K.lookup cda = some ⟨ccl, cdd, .fields vs0, ccs⟩ ∧ vs0[2]? = some (.str file tf) ∧ ((P.main.file : Str) == file) = true ∧ K.lookup cc = some ⟨cl, cld, .cell (some (.ref C)), csl⟩
  htop : (P.main.scope.names.lookup ("super" : Str)).isSome = false
  T : OexC K C
  hsi : PySem.W.ks_superIn K C C "__init__" = some (some (.builtin "ValueError.__init__"))
  hB : PySem.W.subIn K (.ref C) (.type "ValueError") = some true
  hop : PySem.W.nsIn K cStatics "thirdparty.any" = some none
  hmg : mg "super" = none
/-- what is read off the def's text -/
structure SupT (st : Stmt) (N ps : List Str) (rest : List Stmt) : Prop where
  bd : ∃ (p0 p1 p2 p3 p4 pz : Pos) (msg : Str) (z : Nat), defBody st = .Expr (.Call (.Attribute (.Call (.Name "super" p0) [] [] p1) "__init__" p2) [.Constant (.str msg) z pz] [] p3) p4 :: rest ∧
    (∀ env : Env, ∃ pl : Sem Bool, eval (.Call (.Attribute (.Call (.Name "super" p0) [] [] p1) "__init__" p2) [.Constant (.str msg) z pz] [] p3) env = (do
      let ov ← attributeBase (.Call (.Name "super" p0) [] [] p1) "__init__" env (eval (.Call (.Name "super" p0) [] [] p1) env)
      standAt p2.atName
      let (f, first) ← holding [ov] (getMethod ov "__init__" pl)
      callWith p3 f first (backTo p3 (starEach [.Constant (.str msg) z pz] env)) []))
  S : SupScope N ps (defScope st)
  ar : ∃ ar, ((defArgs st).posonlyargs ++ (defArgs st).args).head? = some ar ∧ ps[0]? = some ar.arg
section
variable {P : Program} {w : World} {K : PySem.W.Frag} {mg : Str → Option Value} {base : Heap} {C f : Addr} {fd : FuncData} {st : Stmt} {qual a1 a2 n1 n2 : Str} {q1 q2 q3 q4 r1 r2 r3 r4 : Pos}
theorem fn_sup {N ps : List Str} {rest : List Stmt} {sp : Sp} {k : Nat} (F : SupI P K mg C st qual f fd) (G : SupT st N ps rest) (len : ∀ vs H Q E, sp vs H Q E → vs.length = ps.length)
    (hbody : ∀ (cda cc : Addr) (A : Around) (outer : List Env) (s : Shared) (H : Hp) (vs : List V) (Q : VK) (E : XK), Room k (A.deeper (PySem.W.ksEnv qual (defScope st) s.heap.objs.size f (.ref cda) cc)) → sp vs H Q E →
      (∃ a vs', vs = .ref a :: vs' ∧ H a = some (exo a C none)) ∧ ∃ t, PSs (cxS (L2N.CX P w) P w K mg base N qual (defScope st) f (.ref cda) cc A outer s H E) rest t ∧ t { nx := fun _ H' => Q .non H', rt := Q } (L2.start N vs) H) :
    FnOk P w K mg base (L2N.CX P w) (k + 1) f fd ps sp := by
  obtain ⟨oc, od, kV, doc, pm, an, cda, cc, ct, osl, ccl, cl, cdd, cld, ccs, csl, vs0, file, tf, rfl, lk, hcd, hcode, hvs, hfile, hcell⟩ := F.ex
  obtain ⟨p0, p1, p2, p3, p4, pz, msg, z, eb, hev⟩ := G.bd
  obtain ⟨ar, hp, h0⟩ := G.ar
  rw [eb] at lk ⊢
  exact fn_super lk hcd hcode hvs hfile F.htop hcell F.T F.hsi F.hB F.hop F.hmg hev G.S hp h0 len fun A outer s H vs Q E hr h => hbody cda cc A outer s H vs Q E hr h
theorem init1 (F : SupI P K mg C st qual f fd) (G : SupT st ["self", a1] ["self", a1] [.Assign [.Attribute (.Name "self" q1) n1 q2] (.Name a1 q3) q4]) (h1 : PySem.W.findIn K (.ref C) n1 = some none)
    (d1 : (a1 == ("__debug__" : Str)) = false) (c1 : (a1 == ("__classdict__" : Str)) = false) : FnOk P w K mg base (L2N.CX P w) 1 f fd ["self", a1] (spI C [n1]) := by
  refine fn_sup F G (fun vs H Q E h => ?_) fun cda cc A outer s H vs Q E hr h => ?_
  · obtain ⟨a, ws, rfl, hl, _⟩ := h
    simp [hl]
  · obtain ⟨a, ws, rfl, hl, ea, q⟩ := h
    obtain ⟨v, rfl⟩ : ∃ v, ws = [v] := by
      match ws, hl with
      | [v], _ => exact ⟨v, rfl⟩
    have vs0 : Vis (defScope st) "self" := .inl (G.S.par _ List.mem_cons_self)
    have vs1 : Vis (defScope st) a1 := .inl (G.S.par _ (List.mem_cons_of_mem _ List.mem_cons_self))
    refine ⟨⟨a, _, rfl, ea⟩, _, pss_one (ps_ost (pe_var (i := 0) rfl vs0) (pe_var (i := 1) rfl vs1 d1 c1)), ?_⟩
    refine ⟨v, rfl, .ref a, rfl, a, C, rfl, F.T, h1, .inl ⟨ea, fun dx hd hne => ?_⟩⟩
    exact q dx hd hne
theorem init2 (F : SupI P K mg C st qual f fd) (G : SupT st ["self", a1, a2] ["self", a1, a2] [.Assign [.Attribute (.Name "self" q1) n1 q2] (.Name a1 q3) q4, .Assign [.Attribute (.Name "self" r1) n2 r2] (.Name a2 r3) r4])
    (h1 : PySem.W.findIn K (.ref C) n1 = some none) (h2 : PySem.W.findIn K (.ref C) n2 = some none)
    (d1 : (a1 == ("__debug__" : Str)) = false) (c1 : (a1 == ("__classdict__" : Str)) = false) (d2 : (a2 == ("__debug__" : Str)) = false) (c2 : (a2 == ("__classdict__" : Str)) = false) : FnOk P w K mg base (L2N.CX P w) 1 f fd ["self", a1, a2] (spI C [n1, n2]) := by
  refine fn_sup F G (fun vs H Q E h => ?_) fun cda cc A outer s H vs Q E hr h => ?_
  · obtain ⟨a, ws, rfl, hl, _⟩ := h
    simp [hl]
  · obtain ⟨a, ws, rfl, hl, ea, q⟩ := h
    obtain ⟨v, u, rfl⟩ : ∃ v u, ws = [v, u] := by
      match ws, hl with
      | [v, u], _ => exact ⟨v, u, rfl⟩
    have vs0 : Vis (defScope st) "self" := .inl (G.S.par _ List.mem_cons_self)
    have vs1 : Vis (defScope st) a1 := .inl (G.S.par _ (List.mem_cons_of_mem _ List.mem_cons_self))
    have vs2 : Vis (defScope st) a2 := .inl (G.S.par _ (List.mem_cons_of_mem _ (List.mem_cons_of_mem _ List.mem_cons_self)))
    refine ⟨⟨a, _, rfl, ea⟩, _, pss_cons (ps_ost (pe_var (i := 0) rfl vs0) (pe_var (i := 1) rfl vs1 d1 c1)) (pss_one (ps_ost (pe_var (i := 0) rfl vs0) (pe_var (i := 2) rfl vs2 d2 c2))), ?_⟩
    refine ⟨v, rfl, .ref a, rfl, a, C, rfl, F.T, h1, .inl ⟨ea, fun dx hd hne => ?_⟩⟩
    refine ⟨u, rfl, .ref a, rfl, a, C, rfl, F.T, h2, .inr ⟨dx, [(n1, v)], upd_same, by rw [upd_ne hne, upd_same], by simp, ?_⟩⟩
    have := q dx hd hne
    have e : upd (upd (upd H dx (exd dx [(n1, v)])) a (exo a C (some dx))) dx (exd dx [(n2, u), (n1, v)]) = upd (upd H dx (exd dx ([n1, n2].zip [v, u]).reverse)) a (exo a C (some dx)) := by
      funext b
      by_cases hb : b = dx
      · rw [hb, upd_same, upd_ne hne, upd_same]
        rfl
      · rw [upd_ne hb]
        by_cases hba : b = a
        · rw [hba, upd_same, upd_same]
        · rw [upd_ne hba, upd_ne hba, upd_ne hb, upd_ne hb]
    rw [e]
    exact this
end
end QL
set_option Elab.async false
set_option linter.all false
set_option maxRecDepth 100000
set_option maxHeartbeats 4000000
/-! QX4: try .. except C as n, the caught exception's fields. -/
namespace QL
open PySem L2
section
variable {X : Cx} {W : WX} {x n : Str} {c : Value} {i : Nat} {body suite : List Stmt} {b₀ : Stmt} {np pos pos' : Pos} {wb : WS} {wsu : Addr → Value → Option Addr → WS} {m : Str → Option Bool}
def noXD (_ : Ex) (_ : SS) (_ : LS) : Prop := False
def kDel (i : Nat) (Q : SS → LS → Prop) (σ : SS) (l : LS) : Prop := Q (σ.set i none) l
def dSu (i : Nat) (D : ED) : ED := { nx := kDel i D.nx, rt := D.rt, bk := kDel i D.bk, ct := kDel i D.ct, ex := noXD }
def kCatch (i : Nat) (m : Str → Option Bool) (wsu : Addr → Value → Option Addr → WS) (D : ED) (ex : Ex) (σ : SS) (l : LS) : Prop := match ex with
  | .own x ns xs => (m x = some true ∧ ∀ a cls d, wsu a cls d (dSu i D) (σ.set i (some (.exc a cls d (.own x ns xs)))) l) ∨ (m x = some false ∧ D.ex (.own x ns xs) σ l)
  | .blt _ => False
def wTry (i : Nat) (m : Str → Option Bool) (wb : WS) (wsu : Addr → Value → Option Addr → WS) (D : ED) (σ : SS) (l : LS) : Prop := wb { nx := D.nx, rt := D.rt, bk := D.bk, ct := D.ct, ex := kCatch i m wsu D } σ l
theorem Rel.setNone {K : PySem.W.Frag} {p : Pt} {σ : St} {σd : SS} {l : LS} {i : Nat} (R : Rel K p σ σd l) : Rel K p (σ.set i none) (σd.set i none) l := ⟨R.wf, R.sl.setNone, R.ce⟩
theorem qs_try_as (hs : X.stack = X.env :: X.outer) (hf : X.env.frame = some X.env.locals) (hN : X.N.Nodup) (hi : X.N[i]? = some n) (hln : X.env.kindOf n = some .local) (hc : Names X x c) (tk : L2N.Takes X W)
    (hm : ∀ y b, m y = some b → PySem.W.exmOne X.K (.ref (clsA X.K y)) c = some b)
    (hb : ∀ (W' : WX) (pn : List (Addr × Obj)) (xe : Value → Shared → Prop), L2N.Takes (X.tr pn xe) W' → PassesOwn (model X.prog X.w) X.A X.env xe → QSs (X.tr pn xe) W' body wb)
    (hsu : ∀ (a : Addr) (oe : Obj) (cls : Value) (d : Option Addr) (pn : List (Addr × Obj)), L2N.Zn cls d oe → (∃ vs, oe.data = .fields vs) → QSs (X.suite a ((a, oe) :: pn)) (fun _ _ _ _ => False) (b₀ :: suite) (wsu a cls d)) :
    QS X W (.Try body [.ExceptHandler (some (.Name x np)) (some n) (b₀ :: suite) pos'] [] [] pos) (wTry i m wb wsu) := by
  refine PS.imp (L2N.ps_try_as (tb := fun W' => cS X.K W' wb) (ts := fun a cls d => cS X.K (fun _ _ _ _ => False) (wsu a cls d)) hs hf hN hi hln hc tk hb hsu) fun D σ H ⟨p, σd, l, Dd, hH, R, hw, kk⟩ => ?_
  subst hH
  refine cS_ok R hw ⟨kk.nx, kk.bk, kk.ct, kk.rt, fun p1 σ1 σd1 l1 ex cls dd e1 R1 xr q => ?_⟩
  cases ex with
  | blt _ => exact q.elim
  | own y ns xs =>
    have ec : cls = .ref (clsA X.K y) := xr.1
    subst ec
    rcases q with ⟨h, q⟩ | ⟨h, q⟩
    · refine ⟨true, hm _ _ h, fun _ a na => ?_, fun z => absurd z (by decide)⟩
      have R2 : Rel X.K p1 (σ1.set i (some (.ref a))) (σd1.set i (some (.exc a (.ref (clsA X.K y)) dd (.own y ns xs)))) l1 := R1.set (d := .exc a (.ref (clsA X.K y)) dd (.own y ns xs)) ⟨rfl, xr⟩
      exact cS_ok R2 (q a _ dd) ⟨fun p2 σ2 σd2 l2 e2 r2 q2 => kk.nx p2 _ _ l2 (e1.trans e2) r2.setNone q2, fun p2 σ2 σd2 l2 e2 r2 q2 => kk.bk p2 _ _ l2 (e1.trans e2) r2.setNone q2, fun p2 σ2 σd2 l2 e2 r2 q2 => kk.ct p2 _ _ l2 (e1.trans e2) r2.setNone q2,
        fun p2 d v l2 e2 w2 c2 r2 q2 => kk.rt p2 d v l2 (e1.trans e2) w2 c2 r2 q2, fun _ _ _ _ _ _ _ _ _ _ z => z.elim⟩
    · exact ⟨false, hm _ _ h, fun z => absurd z (by decide), fun _ => kk.ex p1 σ1 σd1 l1 _ _ dd e1 R1 xr q⟩
/-! ### its fields -/
def kXf (a : Addr) (cls : Value) (d : Option Addr) (L : List Str) (f : Str) (Q : P → LS → Prop) (v : P) (l : LS) : Prop := ∃ x ns xs y, v = .exc a cls d (.own x ns xs) ∧ x ∈ L ∧ (ns.zip xs).lookup f = some y ∧ Q (.d y) l
def wXf (a : Addr) (cls : Value) (d : Option Addr) (L : List Str) (f : Str) (we : WE) (σ : SS) (l : LS) (Q : P → LS → Prop) (E : EK) : Prop := we σ l (kXf a cls d L f Q) E
theorem rds_look {K : PySem.W.Frag} {p : Pt} {f : Str} : ∀ {ns : List Str} {xs : List D} {vs : List V} {y : D}, RDs K p xs vs → (ns.zip xs).lookup f = some y → ∃ v, (ns.zip vs).lookup f = some v ∧ RD K p y v
  | [], _, _, _, _, h => by simp at h
  | _ :: _, [], _, _, _, h => by simp at h
  | n :: ns, x :: xs, _, y, .cons r t, h => by
    rw [List.zip_cons_cons, List.lookup_cons] at h ⊢
    by_cases e : f == n
    · rw [e] at h ⊢
      cases h
      exact ⟨_, rfl, r⟩
    · rw [Bool.not_eq_true] at e
      rw [e] at h ⊢
      exact rds_look t h
theorem qe_xf {a : Addr} {oe : Obj} {cls : Value} {d : Option Addr} {pn : List (Addr × Obj)} {e : Expr} {we : WE} {L : List Str} {f : Str} (hL : ∀ y ∈ L, XfC X.K (clsA X.K y) ∧ PySem.W.findIn X.K (.ref (clsA X.K y)) f = some none)
    (hz : Zc cls d oe) (hf : ∃ vs, oe.data = .fields vs) (he : QE (X.suite a ((a, oe) :: pn)) W e we) (hb : attributeBase e f X.env (eval e X.env) = eval e X.env := by rfl) :
    QE (X.suite a ((a, oe) :: pn)) W (.Attribute e f pos) (wXf a cls d L f we) := by
  refine ⟨fun pins s σ H Q I h => ?_⟩
  obtain ⟨p, σd, l, Qd, Ed, hH, R, hw, kk, lk⟩ := h
  subst hH
  refine attr_of hb (thn (he.run pins s σ _ (fun v H1 => ∃ (p1 : Pt) (l1 : LS) (r : P), p1.H = H1 ∧ Ext p p1 ∧ Rel X.K p1 σ σd l1 ∧ RP X.K p1 r v ∧ kXf a cls d L f Qd r l1) I (cE_ok R hw lk fun r l1 v p1 e1 R1 r1 q1 => ⟨p1, l1, r, rfl, e1, R1, r1, q1⟩)) fun u s1 hh => ?_)
  obtain ⟨v, H1, I1, ru, p1, l1, r, rfl, e1, R1, r1, x, ns, xs, y, rfl, hx, hy, q⟩ := hh
  obtain ⟨T, hno⟩ := hL x hx
  obtain ⟨rfl, rfl, dd, vs, rfl, hF, hd, rds⟩ := r1
  obtain rfl : u = Value.ref a := ru
  obtain ⟨ha, _⟩ := I1.pin (a, oe) (List.mem_append_left _ List.mem_cons_self)
  obtain ⟨vs0, hd0⟩ := hf
  have hx : ObjOk X.prog X.w p1.H s1.heap dd (.xd (ns.zip vs)) := I1.hok dd _ hd
  obtain ⟨mA, hns, hr⟩ := hx
  obtain ⟨od, ho, hl⟩ := lookIn_ns hns
  obtain ⟨v, hv, rv⟩ := rds_look rds hy
  obtain ⟨u, hu, ru⟩ := RelO.some_of (v := v) (o := mA f) (by rw [← hv]; exact hr f)
  have J : PySem.W.InstAt s1.heap a oe (clsA X.K x) (some od) := ⟨ha, hz.1, by unfold PySem.W.notCls; rw [hd0] <;> rfl, by rw [hz.2]; exact ho⟩
  exact HandSPX.exc_get I1.kIn J T.ga T.gg T.exC (PySem.W.findObj_own T.hdC hno rfl (by rw [hl, hu])) (handed_of ru) ⟨v, p1.H, I1.tok _, ru, kk (.d y) l1 v p1 e1 R1 rv q⟩
end
end QL
set_option Elab.async false
set_option linter.all false
set_option maxRecDepth 100000
set_option maxHeartbeats 4000000
/-! QX5: isinstance of a caught exception. -/
namespace PySem.W
open PySem PySem.Calls PyProof.Rows
section
variable {prog : Program} {w : World} {A : Around} {E : Value → Shared → Prop} {s : Shared} {K : Frag} {x D : Addr} {ox : Obj} {od : Option Obj}
theorem q_findObj {C : Addr} {name : Str} {a g : Value} (hc : (clsIn K C).isSome = true) (ha : findIn K (.ref C) name = some (some a)) (hg : specialIn K a "__get__" = some (some g)) (ht : takesIn K a = some true) : findObj K C od name = some (.bind g a) := by
  obtain ⟨cd, hc⟩ := Option.isSome_iff_exists.mp hc
  unfold findObj
  rw [hc, Option.bind_some, ha, Option.bind_some]
  simp [hg, ht]
theorem q_class {Q : Option Value → Shared → Prop} (T : L2.ExcC K D)
    (X : K.In s.heap) (I : InstAt s.heap x ox D od) (h : Q (some (.ref D)) { s with toks := s.toks + 1 }) : wpAny (model prog w) A (getAttr? (.ref x) "__class__") Q E s := by
  have hf : findObj K D od "__class__" = some (.bind (.builtin "getset_descriptor.__get__") (.builtin "object.__class__")) := q_findObj (by obtain ⟨cd, hc, _⟩ := any_some T.hd; rw [hc]; rfl) T.ha T.hn T.ht
  obtain ⟨hp, g, d, t, os⟩ := s
  have L0 := I.type (M := model prog w)
  have L1 := looks_findIn (M := model prog w) X T.hg
  have L2 := looks_findIn (M := model prog w) X T.hk
  have L3 := looks_find (M := model prog w) X I hf
  have sub : Looks (model prog w) hp (isInstance (.ref x) (.type "BaseException")) true := L0.andThen (looks_subIn X T.hs)
  have hx0 : (false && onTheHeap (Value.builtin "BaseException.__getattribute__")) = false := rfl
  have hx2 : (Value.builtin "BaseException.__getattribute__" == Value.builtin "object.__getattribute__") = false := by decide +kernel
  have hx1 : (onTheHeap (Value.ref D) && Value.builtin "BaseException.__getattribute__" == Value.builtin "object.__getattribute__") = false := by rw [hx2]; rfl
  unfold getAttr? getAttrBy? getAttrBy
  refine wpAny_bind (wpAny_mkText (wpAny_bind (wpAny_attempt (wpAny_holding (wpAny_bind (L0.at (wpAny_bind (L1.at ?_))))))))
  show wpAny _ _ (if (onTheHeap (Value.ref D) && Value.builtin "BaseException.__getattribute__" == Value.builtin "object.__getattribute__") = true then _ else _) _ _ _
  rw [hx1, if_neg Bool.false_ne_true]
  unfold getAttrByItsOwn hookBefore
  refine wpAny_bind ?_
  rw [if_pos (show onTheHeap (Value.ref D) = true from rfl)]
  refine L2.at ?_
  refine wpAny_bind (wpAny_attempt (wpAny_holding ?_))
  unfold callGetattribute
  rw [hx0, if_neg Bool.false_ne_true]
  unfold boundAndCalled
  rw [PySem.F.excAttr_ValueError.ga.bind (.ref x)]
  refine wpAny_bind (wpAny_pure ?_)
  show wpAny _ _ (call (.builtin "BaseException.__getattribute__") [.ref x, .str "__class__" t]) _ _ _
  refine wpAny_call (codeAny_call_builtin PySem.F.excAttr_ValueError.ga.plain PySem.F.entry_bexc_ga ?_)
  refine @check_slot (model prog w) _ _ ⟨hp, g, d, t + 1, os⟩ "BaseException.__getattribute__" "BaseException" "__getattribute__" (.ref x) [.str "__class__" t] [] _ (by decide +kernel) (by decide +kernel) sub (PySem.F.args_bexc_ga (.ref x) (.str "__class__" t)) ?_
  unfold Builtin.«object.__getattribute__»
  refine wpAny_bind (wpAny_of_eq (a := ((Value.ref x : Value), [Value.str "__class__" t])) (by first | rfl | (simp only [slotArgs]; rfl)) ?_)
  refine wpAny_bind (wpAny_pure (wpAny_bind (L0.at (wpAny_bind (L3.at ?_)))))
  show wpAny _ _ (holding [Value.builtin "object.__class__"] (call (.builtin "getset_descriptor.__get__") [.builtin "object.__class__", .ref x, .ref D]) >>= ret) _ _ _
  refine wpAny_bind (wpAny_holding (wpAny_call (class_get (s := ⟨hp, g, d, t + 1, os⟩) (ox := ox) (od := od) X I T.hm ?_)))
  refine wpAny_pure ?_
  show wpAny _ _ (handedOut (.ref D)) _ _ _
  rw [handedOut_of (v := .ref D) rfl]
  first
    | exact wpAny_pure (wpAny_pure h)
    | exact wpAny_pure h
    | exact wpAny_pure (wpAny_bind (wpAny_pure (wpAny_pure h)))
theorem q_kit (T : L2.ExcC K D) : KitX K (.ref x) (.ref D) (fun h => InstAt h x ox D od) where
  ty := fun _ _ _ I => I.type
  it := fun _ _ X _ => by
    obtain ⟨cdD, hcD, _⟩ := any_some T.hd
    unfold clsIn at hcD
    split at hcD
    · rename_i c' d' cd' sl' ho
      intro A' Q' E' s' k q
      unfold isType loadHead
      exact wpAny_bind (wpAny_loadPart (k _ _ (X _ _ ho)) (wpAny_pure q))
    · cases hcD
  ne := fun h tp dd its n sl X htp => by
    obtain ⟨cdD, hcD, _⟩ := any_some T.hd
    refine Bool.eq_false_iff.mpr fun q => ?_
    have e : D = tp := Value.ref.inj (beq_iff_eq.mp q)
    subst e
    unfold clsIn at hcD
    split at hcD
    · rename_i c' d' cd' sl' ho
      have z := (X _ _ ho).symm.trans htp
      cases z
    · cases hcD
  ca := fun X I k => q_class T X I k
end
end PySem.W
namespace QL
open PySem L2
/-- isinstance(e, c), e the exception that the suite holds; m tells the answers -/
def rIsX (K : PySem.W.Frag) (L : List Str) (m : Str → Bool) (cv : Value) (a : Addr) (cls : Value) (d : Option Addr) : List V → Hp → VK → Prop := fun xs H Q => ∃ (c : V) (y : Str) (dd : Addr) (fs : List (Str × V)), xs = [.ref a, c] ∧ (∀ u, RelV c u → u = cv) ∧
  y ∈ L ∧ cls = .ref (clsA K y) ∧ d = some dd ∧ H dd = some (.xd fs) ∧ Q (.bl (m y)) H
theorem call_isX {X : Cx} {a : Addr} {oe : Obj} {cls cv : Value} {d : Option Addr} {pn : List (Addr × Obj)} {L : List Str} {m : Str → Bool} (hL : ∀ y ∈ L, ExcC X.K (clsA X.K y) ∧ PySem.W.kitOne X.K (.ref (clsA X.K y)) cv = some (m y))
    (hz : Zc cls d oe) (hf : ∃ vs, oe.data = .fields vs) : CallR (X.suite a ((a, oe) :: pn)) (.builtin "isinstance") (rIsX X.K L m cv a cls d) := by
  intro pins s σ H xs us Q I r h
  obtain ⟨c, y, dd, fs, rfl, hcv, hy, rfl, rfl, hd, q⟩ := h
  obtain ⟨C, e⟩ := hL y hy
  cases r with
  | cons rx rr =>
    cases rr with
    | cons rt rr =>
      cases rr
      cases rx
      have ec := hcv _ rt
      subst ec
      obtain ⟨hget, _⟩ := I.pin (a, oe) (List.mem_append.mpr (.inl List.mem_cons_self))
      obtain ⟨vs, hv⟩ := hf
      have hx : ObjOk X.prog X.w H s.heap dd (.xd fs) := I.hok dd _ hd
      obtain ⟨mA, hns, hr⟩ := hx
      obtain ⟨od, ho, hl⟩ := lookIn_ns hns
      have J : PySem.W.InstAt s.heap a oe (clsA X.K y) (some od) := ⟨hget, hz.1, by unfold PySem.W.notCls; rw [hv] <;> rfl, by rw [hz.2]; exact ho⟩
      exact PySem.W.kia_one (PySem.W.q_kit C) I.kIn J e (fun z => nomatch z) fun tk => ⟨.bl (m y), H, I.kept (t' := tk) fun _ _ z => z, rfl, q⟩
section
variable {X : Cx} {W : WX} {pos q : Pos} {e c : Expr} {we : WE}
def kIsX (L : List Str) (m : Str → Bool) (a : Addr) (cls : Value) (d : Option Addr) (Q : P → LS → Prop) (v : P) (l : LS) : Prop := ∃ y ns xs, v = .exc a cls d (.own y ns xs) ∧ y ∈ L ∧ Q (.d (.bl (m y))) l
def wIsX (L : List Str) (m : Str → Bool) (a : Addr) (cls : Value) (d : Option Addr) (we : WE) (σ : SS) (l : LS) (Q : P → LS → Prop) (E : EK) : Prop := we σ l (kIsX L m a cls d Q) E
theorem qe_isX {a : Addr} {oe : Obj} {cls cv : Value} {cV : V} {d : Option Addr} {pn : List (Addr × Obj)} {L : List Str} {m : Str → Bool} (hL : ∀ y ∈ L, ExcC X.K (clsA X.K y) ∧ PySem.W.kitOne X.K (.ref (clsA X.K y)) cv = some (m y))
    (hz : Zc cls d oe) (hf : ∃ vs, oe.data = .fields vs) (he : QE (X.suite a ((a, oe) :: pn)) W e we) (hc : PE (X.suite a ((a, oe) :: pn)) c (tC cV)) (hcv : ∀ u, RelV cV u → u = cv)
    (hg : Gl (X.suite a ((a, oe) :: pn)) "isinstance") (hm : X.mg "isinstance" = none)
    (hst : starEach (e :: [c]) X.env = (false, eval e X.env) :: starEach [c] X.env := by rfl) (hst2 : starEach [c] X.env = [(false, eval c X.env)] := by rfl) (hpl : (backTo pos (starEach [c] X.env)).any (·.1) = false := by rfl) :
    QE (X.suite a ((a, oe) :: pn)) W (.Call (.Name "isinstance" q) [e, c] [] pos) (wIsX L m a cls d we) := by
  refine PE.imp (pe_callB (call_isX hL hz hf) hg hm (by rfl) (pa_cons he (pa_cons hc pa_nil hst2) hst) (by decide) (by decide) hst hpl) fun σ H Q ⟨p, σd, l, Qd, Ed, hH, R, hw, kk, lk⟩ => ?_
  subst hH
  refine cE_ok R hw lk fun r l1 v p1 e1 R1 r1 ⟨y, ns, xs, er, hy, q⟩ => ?_
  subst er
  obtain ⟨rfl, ec, dd, vs, ed, hF, hd, rds⟩ := r1
  exact ⟨cV, y, dd, _, rfl, hcv, hy, ec, ed, hd, kk (.d (.bl (m y))) l1 _ p1 e1 R1 (RD.bl _) q⟩
end
end QL
set_option Elab.async false
set_option linter.all false
set_option maxRecDepth 100000
set_option maxHeartbeats 4000000
/-! QS1: text and tuple times a number, a sign within a text. -/
namespace L2
open PySem PySem.Spec PyProof.Rows
theorem q_tuple_same (l : Addr) (items : Array Value) (n : Nat) (dd : Option Addr) (sl : Array (Option Value)) (x : Int) (u : Tok) (c0 : (decide (x < -(2 ^ 63)) || decide (x ≥ 2 ^ 63)) = false) (c1 : (items.isEmpty || x == 1) = true) :
    Meets (Builtin.«tuple.__mul__» ⟨[.ref l, .int x u], []⟩) (fun _ R s => s.heap.get? l = some { cls := .type "tuple", dict := dd, data := .seq items n, slots := sl } ∧ R (.ok (.ret (Value.ref l))) s) :=
  .of_wp fun prog w A R s h => by
    obtain ⟨hp, g, d, tk, os⟩ := s
    obtain ⟨hl, h⟩ := h
    have f1 := AutoSeq1.idx_int
    wp_walk using wpAny_loadPart' hl
    repeat (first
      | (refine wpAny_ite_false (decide_eq_false (by rw [c0]; exact Bool.false_ne_true)) ?_; wp_walk using wpAny_loadPart' hl)
      | (refine wpAny_ite_true (decide_eq_true c1) ?_; wp_walk using wpAny_loadPart' hl))
    exact ⟨_, rfl, h⟩
theorem q_tuple_nil (l : Addr) (items : Array Value) (n : Nat) (dd : Option Addr) (sl : Array (Option Value)) (x : Int) (u : Tok) (c0 : (decide (x < -(2 ^ 63)) || decide (x ≥ 2 ^ 63)) = false) (c1 : (items.isEmpty || x == 1) = false) (c2 : (decide (x ≤ 0) || items.isEmpty) = true) :
    Meets (Builtin.«tuple.__mul__» ⟨[.ref l, .int x u], []⟩) (fun _ R s => s.heap.get? l = some { cls := .type "tuple", dict := dd, data := .seq items n, slots := sl } ∧
      R (.ok (.ret (Value.ref s.heap.objs.size))) { s with heap := s.heap.push { cls := Value.type "tuple", data := Data.seq #[] }, toks := s.toks }) :=
  .of_wp fun prog w A R s h => by
    obtain ⟨hp, g, d, tk, os⟩ := s
    obtain ⟨hl, h⟩ := h
    have f1 := AutoSeq1.idx_int
    wp_walk using wpAny_loadPart' hl
    repeat (first
      | (refine wpAny_ite_false (decide_eq_false (by rw [c0]; exact Bool.false_ne_true)) ?_; wp_walk using wpAny_loadPart' hl)
      | (refine wpAny_ite_false (decide_eq_false (by rw [c1]; exact Bool.false_ne_true)) ?_; wp_walk using wpAny_loadPart' hl)
      | (refine wpAny_ite_true (decide_eq_true c2) ?_; wp_walk using wpAny_loadPart' hl))
    exact ⟨_, rfl, h⟩
def rRepT2 (K : PySem.W.Frag) : R2 := fun x y H Q => ∃ l k xs, x = .ref l ∧ y = .int k ∧ SqT K H l xs ∧ -(2 ^ 63) ≤ k ∧ k < 2 ^ 63 ∧ xs.length * k.toNat ≤ sizeLine ∧
  (xs = [] ∨ k = 1 → Q (.ref l) H) ∧ (xs ≠ [] → k ≠ 1 → ∀ p, H p = none → Q (.ref p) (upd H p (.tup (List.replicate k.toNat xs).flatten)))
section
variable {X : Cx}
theorem op_repT2 : OpR X (binaryOp .Mult) (rRepT2 X.K) := by
  intro pins s σ H x y v u Q I rx ry h
  obtain ⟨l, k, xs, rfl, rfl, hT, h1, h2, hz, q1, q2⟩ := h
  cases rx
  obtain ⟨t, rfl⟩ := ry
  obtain ⟨its, r, ⟨⟨cls, dd, data, sl⟩, ho, hc, n, hd⟩, hs⟩ := I.tuple hT
  simp only at hc hd
  subst hc hd
  have hle : its.length = xs.length := r.length.symm
  have c0 : (decide (k < -(2 ^ 63)) || decide (k ≥ 2 ^ 63)) = false := by
    rw [decide_eq_false (by omega), decide_eq_false (by omega)] <;> rfl
  have hi : its.toArray.isEmpty = decide (xs = []) := by
    cases its with
    | nil =>
      have : xs = [] := List.eq_nil_of_length_eq_zero (by rw [← hle]; rfl)
      rw [decide_eq_true this]
      rfl
    | cons a b =>
      have : xs ≠ [] := fun e => by rw [e] at hle; simp at hle
      rw [decide_eq_false this]
      rfl
  by_cases hc1 : xs = [] ∨ k = 1
  · have c1 : (its.toArray.isEmpty || k == 1) = true := by
      rw [hi]
      rcases hc1 with z | z
      · rw [decide_eq_true z]; rfl
      · rw [z]; simp
    refine wpAny_binaryOp_repeat_ref (T := "tuple") (U := "int") (by decide) ⟨_, ho, rfl⟩ (fun s' => typeIs_int s' k t) noFill_tuple_mul F.fills_int_mul F.slot_int_rmul repeat_tuple F.slot_int_index.lookup
      (call_meets F.slot_int_rmul (typeIs_int s k t) F.entry_int_rmul (F.args_int_rmul_2 _ _) (int_rmul_tuple k t l its.toArray n dd sl)
        ⟨ho, rfl, ⟨_, ho, rfl⟩, call_meets F.slot_tuple_mul ⟨_, ho, rfl⟩ F.entry_tuple_mul (F.args_tuple_mul_2 _ _) (q_tuple_same l its.toArray n dd sl k t c0 c1) ⟨ho, ?_⟩⟩)
    exact ⟨.ref l, H, I, rfl, q1 hc1⟩
  · have hne : xs ≠ [] := fun e => hc1 (.inl e)
    have hk1 : k ≠ 1 := fun e => hc1 (.inr e)
    have c1 : (its.toArray.isEmpty || k == 1) = false := by
      rw [hi, decide_eq_false hne, Bool.false_or]
      exact beq_eq_false_iff_ne.mpr hk1
    by_cases hk : k ≤ 0
    · have c2 : (decide (k ≤ 0) || its.toArray.isEmpty) = true := by rw [decide_eq_true hk]; rfl
      refine wpAny_binaryOp_repeat_ref (T := "tuple") (U := "int") (by decide) ⟨_, ho, rfl⟩ (fun s' => typeIs_int s' k t) noFill_tuple_mul F.fills_int_mul F.slot_int_rmul repeat_tuple F.slot_int_index.lookup
        (call_meets F.slot_int_rmul (typeIs_int s k t) F.entry_int_rmul (F.args_int_rmul_2 _ _) (int_rmul_tuple k t l its.toArray n dd sl)
          ⟨ho, rfl, ⟨_, ho, rfl⟩, call_meets F.slot_tuple_mul ⟨_, ho, rfl⟩ F.entry_tuple_mul (F.args_tuple_mul_2 _ _) (q_tuple_nil l its.toArray n dd sl k t c0 c1 c2) ⟨ho, ?_⟩⟩)
      have e0 : k.toNat = 0 := by omega
      have q := q2 hne hk1
      rw [e0] at q
      refine ⟨.ref s.heap.objs.size, _, I.laid (t' := s.toks) (o := .tup []) (fun b ob q => Heap.get?_push_of_some _ q) (Nat.le_refl _) ?_, rfl, q _ (I.hok.fresh (Nat.le_refl _))⟩
      exact ⟨by rw [List.length_nil]; exact Nat.zero_le _, [], .nil, IsTup.new _ _⟩
    · have c2 : (decide (k ≤ 0) || its.toArray.isEmpty) = false := by
        rw [hi, decide_eq_false hne, decide_eq_false hk]
        rfl
      have hm : ((its.toArray.size : Nat) : Int) * k ≤ 16777216 := by
        rw [List.size_toArray, hle, show k = ((k.toNat : Nat) : Int) by omega]
        rw [sizeLine_eq] at hz
        have h3 : ((xs.length * k.toNat : Nat) : Int) ≤ ((16777216 : Nat) : Int) := Int.ofNat_le.mpr hz
        rw [Int.natCast_mul] at h3
        exact h3
      have flen : (List.replicate k.toNat its).flatten.length ≤ sizeLine := by
        rw [PyProof.Rows.lm_len_rep_flat, hle, Nat.mul_comm]
        exact hz
      have c4 : Builtin.Tuple.tupleTooMany (((its.toArray.size : Nat) : Int) * k) = false := by
        unfold Builtin.Tuple.tupleTooMany
        rw [sizeLine_eq]
        exact decide_eq_false (by omega)
      refine wpAny_binaryOp_repeat_ref (T := "tuple") (U := "int") (by decide) ⟨_, ho, rfl⟩ (fun s' => typeIs_int s' k t) noFill_tuple_mul F.fills_int_mul F.slot_int_rmul repeat_tuple F.slot_int_index.lookup
        (call_meets F.slot_int_rmul (typeIs_int s k t) F.entry_int_rmul (F.args_int_rmul_2 _ _) (int_rmul_tuple k t l its.toArray n dd sl)
          ⟨ho, rfl, ⟨_, ho, rfl⟩, call_meets F.slot_tuple_mul ⟨_, ho, rfl⟩ F.entry_tuple_mul (F.args_tuple_mul_2 _ _) (tuple_mulW l its.toArray n dd sl k t c0 c1 c2 (by omega) c4 (by rw [size_rep, List.size_toArray]; exact flen)) ⟨ho, ?_⟩⟩)
      rw [size_rep]
      refine ⟨.ref s.heap.objs.size, _, I.laid (t' := s.toks) (o := .tup (List.replicate k.toNat xs).flatten) (fun b ob q => Heap.get?_push_of_some _ q) (Nat.le_refl _) ?_, rfl, q2 hne hk1 _ (I.hok.fresh (Nat.le_refl _))⟩
      exact ⟨by rw [PyProof.Rows.lm_len_rep_flat, Nat.mul_comm]; exact hz, _, r.rep k.toNat, IsTup.new _ _⟩
/-- a text many times over -/
def repS (x : Str) (k : Int) : Str := ⟨(List.replicate k.toNat x.cps.toList).flatten.toArray⟩
theorem q_fold (x : Array Nat) : ∀ m : Nat, (List.replicate m x).foldl (· ++ ·) #[] = (List.replicate m x.toList).flatten.toArray := by
  have h : ∀ (m : Nat) (a : Array Nat), (List.replicate m x).foldl (· ++ ·) a = a ++ (List.replicate m x.toList).flatten.toArray := by
    intro m
    induction m with
    | zero => intro a; simp
    | succ m ih =>
      intro a
      rw [List.replicate_succ, List.foldl_cons, ih, List.replicate_succ, List.flatten_cons]
      apply Array.toList_inj.mp
      simp
  intro m
  rw [h]
  simp
def rRepS : R2 := fun x y H Q => ∃ z k, x = .str z ∧ y = .int k ∧ -(2 ^ 63) ≤ k ∧ k < 2 ^ 63 ∧ z.length * k.toNat ≤ sizeLine ∧ Q (.str (repS z k)) H
theorem op_repS : OpR X (binaryOp .Mult) rRepS := by
  intro pins s σ H x y v u Q I rx ry h
  obtain ⟨z, k, rfl, rfl, h1, h2, hz, q⟩ := h
  obtain ⟨t, rfl⟩ := rx
  obtain ⟨t', rfl⟩ := ry
  have hm : ((z.length : Nat) : Int) * ((k.toNat : Nat) : Int) ≤ 16777216 := by
    rw [sizeLine_eq] at hz
    have h3 : ((z.length * k.toNat : Nat) : Int) ≤ ((16777216 : Nat) : Int) := Int.ofNat_le.mpr hz
    rw [Int.natCast_mul] at h3
    exact h3
  refine PySem.P.mul_str (by rw [decide_eq_false (by omega), decide_eq_false (by omega)]; rfl) (fun a b => ?_) (fun a b => ?_) ?_
  · have e : (k.toNat : Int) = k := by omega
    rw [e] at hm
    have hk : 1 ≤ k := by omega
    refine Int.not_lt.mpr ((Int.le_ediv_iff_mul_le (by omega)).mpr ?_)
    omega
  · show decide (z.length * k.toNat > sizeLine) = false
    exact decide_eq_false (by omega)
  · have hT : ∀ (y : Str), y = repS z k → Q (.str y) H := fun y e => by rw [e]; exact q
    by_cases hk : k < 1
    · rw [if_pos hk]
      refine ⟨by decide, .str Str.empty, H, I.tok _, ⟨_, rfl⟩, hT _ ?_⟩
      unfold repS
      rw [show k.toNat = 0 by omega]
      rfl
    · rw [if_neg hk]
      by_cases hb : (k == 1 || z.length == 0) = true
      · rw [if_pos hb]
        refine ⟨.str z, H, I, ⟨_, rfl⟩, hT _ ?_⟩
        unfold repS
        rcases Bool.or_eq_true_iff.mp hb with e | e
        · have e : k = 1 := by simpa using e
          subst e
          show z = ⟨([z.cps.toList].flatten).toArray⟩
          simp
        · have e : z.cps.size = 0 := by simpa [Str.length] using e
          have e2 : z.cps = #[] := Array.eq_empty_of_size_eq_zero e
          have e3 : z = ⟨#[]⟩ := by cases z; simp at e2; rw [e2]
          rw [e3]
          congr 1
          apply Array.toList_inj.mp
          simp
      · rw [if_neg hb]
        refine ⟨?_, .str _, H, I.tok _, ⟨_, rfl⟩, hT _ ?_⟩
        · rw [q_fold]
          show (List.replicate k.toNat z.cps.toList).flatten.toArray.size ≤ sizeLine
          rw [List.size_toArray, PyProof.Rows.lm_len_rep_flat, Nat.mul_comm]
          simpa [Str.length] using hz
        · unfold repS
          rw [q_fold]
end
end L2

namespace QL
open PySem L2
/-! ### over plain data -/
def oMulT (x y : P) (l : LS) (Q : P → LS → Prop) : Prop := match x, y with
  | .d (.tup a), .d (.int k) => -(2 ^ 63) ≤ k ∧ k < 2 ^ 63 ∧ a.length * k.toNat ≤ sizeLine ∧ Q (.d (.tup (List.replicate k.toNat a).flatten)) l
  | _, _ => False
theorem RDs.rep {K : PySem.W.Frag} {p : Pt} {xs : List D} {vs : List V} (h : RDs K p xs vs) : ∀ k : Nat, RDs K p (List.replicate k xs).flatten (List.replicate k vs).flatten
  | 0 => .nil
  | k + 1 => by
    rw [List.replicate_succ, List.replicate_succ, List.flatten_cons, List.flatten_cons]
    exact h.append (RDs.rep h k)
theorem ref_mulT {K : PySem.W.Frag} : RefOp K (rRepT2 K) oMulT := fun p l x y vx vy Qd Q w ce rx ry h k => by
  unfold oMulT at h
  split at h
  · rename_i a n
    cases ry
    cases rx with
    | tup h1 r1 =>
      obtain ⟨b1, b2, b3, q⟩ := h
      refine ⟨_, _, _, rfl, rfl, h1.sq, b1, b2, by rw [← r1.len]; exact b3, fun e => ?_, fun _ _ => k.newT w ce (r1.rep _) q⟩
      have e2 : (List.replicate n.toNat a).flatten = a := by
        rcases e with e | e
        · have : a = [] := List.eq_nil_of_length_eq_zero (by rw [r1.len, e]; rfl)
          rw [this]
          simp
        · rw [e]
          show [a].flatten = a
          simp
      rw [e2] at q
      exact k.same w ce (d := .d _) (RD.tup h1 r1) q
  · exact h.elim
def oMulS (x y : P) (l : LS) (Q : P → LS → Prop) : Prop := match x, y with
  | .d (.str a), .d (.int k) => -(2 ^ 63) ≤ k ∧ k < 2 ^ 63 ∧ a.length * k.toNat ≤ sizeLine ∧ Q (.d (.str (repS a k))) l
  | _, _ => False
theorem ref_mulS {K : PySem.W.Frag} : RefOp K rRepS oMulS := fun p l x y vx vy Qd Q w ce rx ry h k => by
  unfold oMulS at h
  split at h
  · cases rx; cases ry
    exact ⟨_, _, rfl, rfl, h.1, h.2.1, h.2.2.1, k.same w ce (d := .d _) (RD.str _) h.2.2.2⟩
  · exact h.elim
/-- one sign within a text -/
def oInC (neg : Bool) (x y : P) (l : LS) (Q : P → LS → Prop) : Prop := match x, y with
  | .d (.str a), .d (.str z) => ∃ c, a = ⟨#[c]⟩ ∧ Q (.d (.bl (decide (c ∈ z.cps.toList) ^^ neg))) l
  | _, _ => False
theorem ref_inC {K : PySem.W.Frag} : RefOp K (fun x y H Q => ∃ i j, x = .str i ∧ y = .str j ∧ Q (.bl (!(Builtin.Str.occurrences j i 0 j.length 1).isEmpty)) H) (oInC false) := fun p l x y vx vy Qd Q w ce rx ry h k => by
  unfold oInC at h
  split at h
  · cases rx; cases ry
    obtain ⟨c, rfl, h⟩ := h
    rw [Bool.xor_false] at h
    refine ⟨_, _, rfl, rfl, ?_⟩
    rw [PySem.StrLaws.found_one]
    exact k.same w ce (d := .d _) (RD.bl _) h
  · exact h.elim
end QL
set_option Elab.async false
set_option linter.all false
set_option maxRecDepth 100000
set_option maxHeartbeats 4000000
/-! QS2: s += t, calls without arguments. -/
namespace L2
open PySem PySem.Spec PyProof.Rows
theorem ip_addS {X : Cx} : PIp X .Add (fun x y H Q => ∃ i j, x = .str i ∧ y = .str j ∧ i.length + j.length ≤ sizeLine ∧ Q (.str (i ++ j)) H) := by
  exact iop_add_str
end L2
namespace QL
open PySem L2
section
variable {X : Cx} {W : WX} {pos q : Pos} {x : Str} {fs : FS} {k j n : Nat}
def kCall0 (fs : FS) (l : LS) (Q : P → LS → Prop) (E : EK) : Prop := callP fs [] l Q E
def wCall0 (fs : FS) (σ : SS) (l : LS) (Q : P → LS → Prop) (E : EK) : Prop := kCall0 fs l Q E
theorem qe_call0 (c : CalQ X.prog X.w X.K X.mg X.base k x 0 fs) (hr : Room j X.A) (hk : k ≤ j) (tk : L2N.Takes X W) (hg : Gl X x) (hdb : (x == ("__debug__" : Str)) = false := by decide) :
    QE X W (.Call (.Name x q) [] [] pos) (wCall0 fs) := by
  obtain ⟨f, fd, ps, F, hm, hkp, hb⟩ := c
  refine ⟨fun pins s σ H Q I h => ?_⟩
  refine wpAny_Call_Name_kw (ld_glob I hg hm ?_ hdb)
  refine PySem.W.callWith_K0 I.kIn hkp (run_fnS (E := fun σ => L2.WE W σ) (us := []) (vs := []) F (hr.mono hk) hb (L2N.passAt tk σ) I .nil ?_)
  obtain ⟨p, σd, l, Qd, Ed, hH, R, hw, kk, lk⟩ := h
  subst hH
  exact call_ok R.wf R.ce .nil rfl hw (fun d l' v p' e' w' c' r' q' => kk d l' v p' e' (R.ext e' w' c') r' q') fun ex l' cls dd p' e' w' c' x q => lk ex l' cls dd p' e' (R.ext e' w' c') x q
end
end QL
set_option Elab.async false
set_option linter.all false
set_option maxRecDepth 100000
set_option maxHeartbeats 4000000
/-! QX6: the facts of an own exception class, by a look at the written part. -/
namespace QL
open PySem L2
theorem clsA_of {K : PySem.W.Frag} {x : Str} {C : Addr} (h : PySem.W.nsIn K mainGlobals x = some (some (.ref C))) : clsA K x = C := by
  unfold clsA
  rw [h]
def excOkB (K : PySem.W.Frag) (C : Addr) : Bool := match K.lookup C with
  | some ⟨.type "type", _, .cls cd, sl⟩ => (match cd.mro, sl.toList with
    | .ref C' :: bm, [_, _, _, _, some (.builtin n), _] => decide (C' = C) && (decide (n = "ValueError.__new__") && (!cd.hasDel && (cd.hasDict && PySem.HandSPX.refsVE bm)))
    | _, _ => false)
  | _ => false
theorem excOkB_ok {K : PySem.W.Frag} {C : Addr} (h : excOkB K C = true) : ∃ nm q N bs bm sn sub ab col dd k0 k1 k2 k3 k5, K.lookup C = some (excClassObj nm q C N bs bm true sn sub ab col dd k0 k1 k2 k3 k5 "ValueError.__new__") ∧ PySem.HandSPX.refsVE bm = true := by
  unfold excOkB at h
  split at h
  · rename_i dd cd sl ho
    split at h
    · rename_i C' bm k0 k1 k2 k3 n k5 hm hs
      simp only [Bool.and_eq_true, decide_eq_true_eq, Bool.not_eq_true'] at h
      obtain ⟨rfl, rfl, h3, h4, h5⟩ := h
      obtain ⟨nm, bs, mro, ns, qn, hd, sn, sb, ab, col, del⟩ := cd
      dsimp only at hm h3 h4
      subst hm h3 h4
      have es : sl = #[k0, k1, k2, k3, some (.builtin "ValueError.__new__"), k5] := Array.toList_inj.mp hs
      subst es
      exact ⟨_, _, _, _, bm, _, _, _, _, _, _, _, _, _, _, ho, h5⟩
    · cases h
  · cases h
def clsB (K : PySem.W.Frag) (C : Addr) : Bool := excOkB K C && (decide (PySem.W.findIn K (.ref C) "__setattr__" = some (some (.builtin "object.__setattr__"))) && (decide (PySem.W.subIn K (.ref C) (.type "BaseException") = some true) && (decide (PySem.W.typeIn K (.ref C) = some (.type "type")) &&
  (PySem.W.keepIn K (.ref C) && (decide (PySem.W.findIn K (.ref C) "__getattribute__" = some (some (.builtin "BaseException.__getattribute__"))) && (decide (PySem.W.findIn K (.ref C) "__getattr__" = some none) && (PySem.W.hasDictIn K C &&
  (decide (PySem.W.findIn K (.ref C) "__class__" = some (some (.builtin "object.__class__"))) && (decide (PySem.W.specialIn K (.builtin "object.__class__") "__get__" = some (some (.builtin "getset_descriptor.__get__"))) && (decide (PySem.W.takesIn K (.builtin "object.__class__") = some true) &&
  decide (PySem.W.mroIn K C (.type "object") = some true)))))))))))
structure ClsF (K : PySem.W.Frag) (C : Addr) : Prop where
  oex : OexC K C
  xf : XfC K C
  exc : ExcC K C
theorem clsB_ok {K : PySem.W.Frag} {C : Addr} (h : clsB K C = true) : ClsF K C := by
  unfold clsB at h
  simp only [Bool.and_eq_true, decide_eq_true_eq] at h
  obtain ⟨h1, h2, h3, h4, h5, h6, h7, h8, h9, h10, h11, h12⟩ := h
  exact ⟨⟨excOkB_ok h1, h2, h3, h4, h5⟩, ⟨h6, h7, h3, h8⟩, ⟨h6, h7, h3, h8, h9, h10, h11, h12⟩⟩
theorem tabAll {K : PySem.W.Frag} {c : Value} {t : List (Str × Bool)} (h : ∀ p ∈ t, PySem.W.exmOne K (.ref (clsA K p.1)) c = some p.2) (y : Str) (b : Bool) (e : t.lookup y = some b) : PySem.W.exmOne K (.ref (clsA K y)) c = some b := h (y, b) (PySem.mem_of_lookup e)
/-- a class and the statement of its __init__ -/
def methS (st : Stmt) (i : Nat) : Stmt := match st with
  | .ClassDef _ _ _ body _ _ _ _ _ _ _ => body.getD i (.Pass ⟨0, 0, 0, 0⟩)
  | _ => .Pass ⟨0, 0, 0, 0⟩
end QL
set_option Elab.async false
set_option linter.all false
set_option maxRecDepth 100000
set_option maxHeartbeats 4000000
/-! QS3: x in a list of data of any depth, l.index(x), comprehensions with a test. -/
namespace QL
open PySem L2
theorem any_py {a : D} : ∀ ys : List D, ((D.pys ys).any fun z => PyData.eqv z a.py) = ys.any fun z => D.eqv z a
  | [] => rfl
  | y :: ys => by
    rw [show D.pys (y :: ys) = y.py :: D.pys ys from by simp [D.pys], List.any_cons, List.any_cons, any_py ys]
    rfl
def oInD (neg : Bool) (x y : P) (l : LS) (Q : P → LS → Prop) : Prop := match snap l x, snap l y with
  | some a, some (.lst ys) => dOk 60 a ∧ dOk 60 (.lst ys) ∧ Q (.d (.bl (if neg then !(ys.any fun z => D.eqv z a) else ys.any fun z => D.eqv z a))) l
  | _, _ => False
theorem ref_inD {K : PySem.W.Frag} : RefOp K (rInD K) (oInD false) := fun p l x y vx vy Qd Q w ce rx ry h k => by
  unfold oInD at h
  split at h
  · rename_i a ys ha hb
    have q := k.same w ce (d := .d _) (RD.bl _) h.2.2
    rw [if_neg (by decide), ← any_py] at q
    have e : (D.lst ys).py = .list (D.pys ys) := by simp [D.py]
    have h1 := snap_ok ce ry hb h.2.1
    have h2 := dOk_shaped h.2.1
    rw [e] at h1 h2
    exact ⟨_, _, snap_ok ce rx ha h.1, h1, dOk_shaped h.1, h2, q⟩
  · exact h.elim
theorem ref_notInD {K : PySem.W.Frag} : RefOp K (rNotInD K) (oInD true) := fun p l x y vx vy Qd Q w ce rx ry h k => by
  unfold oInD at h
  split at h
  · rename_i a ys ha hb
    have q := k.same w ce (d := .d _) (RD.bl _) h.2.2
    rw [if_pos rfl, ← any_py] at q
    have e : (D.lst ys).py = .list (D.pys ys) := by simp [D.py]
    have h1 := snap_ok ce ry hb h.2.1
    have h2 := dOk_shaped h.2.1
    rw [e] at h1 h2
    exact ⟨_, _, snap_ok ce rx ha h.1, h1, dOk_shaped h.1, h2, q⟩
  · exact h.elim
def mIndex (x : P) (xs : List P) (l : LS) (Q : P → LS → Prop) : Prop := match snap l x, xs with
  | some (.lst ys), [.d a] => dOk 60 a ∧ dOk 60 (.lst ys) ∧ ∃ (j : Nat) (z : D), ys[j]? = some z ∧ D.eqv z a = true ∧ (∀ (m : Nat) (z' : D), m < j → ys[m]? = some z' → D.eqv z' a = false) ∧ Q (.d (.int (j : Int))) l
  | _, _ => False
theorem pys_get : ∀ (ys : List D) (j : Nat), (D.pys ys)[j]? = (ys[j]?).map D.py
  | [], j => by simp [D.pys]
  | y :: ys, 0 => by simp [D.pys]
  | y :: ys, j + 1 => by
    rw [show D.pys (y :: ys) = y.py :: D.pys ys from by simp [D.pys], List.getElem?_cons_succ, List.getElem?_cons_succ, pys_get ys j]
theorem ref_index {K : PySem.W.Frag} : RefMt K (rIndexD K) mIndex := fun p l x vx xs vs Qd Q w ce rx rxs h k => by
  unfold mIndex at h
  split at h
  · rename_i ys a hx
    obtain ⟨v, rfl, r⟩ := rxs.one
    obtain ⟨h1, h2, j, z, hz, hzz, hno, q⟩ := h
    have d1 := snap_ok ce rx hx h2
    have s2 := dOk_shaped h2
    have e : (D.lst ys).py = .list (D.pys ys) := by simp [D.py]
    rw [e] at d1 s2
    have hv : ∃ b, vx = .ref b := by cases d1 with | lst _ _ => exact ⟨_, rfl⟩
    obtain ⟨b, rfl⟩ := hv
    refine ⟨b, v, a.py, D.pys ys, j, z.py, rfl, rfl, d1, snap_ok ce (x := .d a) r rfl h1, s2, dOk_shaped h1, by rw [pys_get, hz]; rfl, hzz, fun m z' hm hz' => ?_, k.same w ce (d := .d _) (RD.int _) q⟩
    rw [pys_get] at hz'
    obtain ⟨y', hy', rfl⟩ := Option.map_eq_some_iff.mp hz'
    exact hno m y' hm hy'
  · exact h.elim
/-- [elt for x in xs if test] -/
theorem lcF {xs : List D} {g : WG} {σ : SS} {l : LS} {tt : WT} {te : WE} {vs : List Nat} {f : Fresh} {Q : P → LS → Prop} (Iv : Nat → List D → LS → Prop) (hz : xs.length < sizeLine) (h0 : Iv 0 [] l) (hl : ∀ i acc l, Iv i acc l → acc.length ≤ i ∧ i ≤ xs.length)
    (ht : ∀ i x acc l, xs[i]? = some x → Iv i acc l → g (.d x) (wipeD σ vs) l (kLcT tt te vs σ (Iv (i + 1)) acc)) (hd : ∀ acc l, Iv xs.length acc l → freshL f acc l Q) : lcP ⟨xs, okAll⟩ g tt te vs f σ l Q :=
  ⟨Iv, h0, fun i acc l h => ⟨True.intro, by have := hl _ _ _ h; show acc.length < sizeLine; omega⟩, fun i x acc l e h => ht i x acc l e h, fun acc l h => hd acc l h⟩
end QL
open PySem L2 in
theorem L2.Room.u65 {k : Nat} {A : Around} (r : Room k A) : A.units + 65 < cLine := by have := r.un; omega
set_option Elab.async false
set_option linter.all false
set_option maxRecDepth 100000
set_option maxHeartbeats 4000000
/-! QD1: dicts over plain data. -/
namespace QL
open PySem L2
section
variable {κ : Type} [DecidableEq κ]
def valD (kvs : List (κ × D)) (k : κ) : Option D := (kvs.find? fun kv => decide (kv.1 = k)).map (·.2)
def putD (kvs : List (κ × D)) (k : κ) (v : D) : List (κ × D) :=
  if (kvs.any fun kv => decide (kv.1 = k)) = true then kvs.map (fun kv => if kv.1 = k then (kv.1, v) else kv) else kvs ++ [(k, v)]
theorem valD_nil {k : κ} : valD ([] : List (κ × D)) k = none := rfl
theorem valD_pos {q : κ × D} {r : List (κ × D)} {k : κ} (e : q.1 = k) : valD (q :: r) k = some q.2 := by simp [valD, List.find?_cons, e]
theorem valD_neg {q : κ × D} {r : List (κ × D)} {k : κ} (e : ¬ q.1 = k) : valD (q :: r) k = valD r k := by simp [valD, List.find?_cons, e]
/-- the same pairs, by values -/
def zipV (kvs : List (κ × D)) (vs : List V) : List (κ × V) := (kvs.map (·.1)).zip vs
variable {K : PySem.W.Frag} {p : Pt}
theorem valD_ok (k : κ) : ∀ {kvs : List (κ × D)} {vs : List V}, RDs K p (kvs.map (·.2)) vs → (∃ d v, valD kvs k = some d ∧ valV (zipV kvs vs) k = some v ∧ RD K p d v) ∨ (valD kvs k = none ∧ valV (zipV kvs vs) k = none)
  | [], _, _ => .inr ⟨rfl, rfl⟩
  | q :: kvs, _, .cons (v := v) (vs := vs) h t => by
    show (∃ d w, _ ∧ valV ((q.1, v) :: zipV kvs vs) k = some w ∧ _) ∨ (_ ∧ valV ((q.1, v) :: zipV kvs vs) k = none)
    by_cases e : q.1 = k
    · exact .inl ⟨q.2, v, valD_pos e, valV_pos e, h⟩
    · rw [valD_neg e, valV_neg e]
      exact valD_ok k t
theorem any_zip (k : κ) : ∀ {kvs : List (κ × D)} {vs : List V}, kvs.length = vs.length → ((zipV kvs vs).any fun kv => decide (kv.1 = k)) = kvs.any fun kv => decide (kv.1 = k)
  | [], _, _ => rfl
  | q :: kvs, [], h => by simp at h
  | q :: kvs, v :: vs, h => by
    show (decide (q.1 = k) || (zipV kvs vs).any _) = (decide (q.1 = k) || kvs.any _)
    rw [any_zip k (by simpa using h)]
theorem mapD_ok {d : D} {v : V} (k : κ) (r : RD K p d v) : ∀ {kvs : List (κ × D)} {vs : List V}, RDs K p (kvs.map (·.2)) vs →
    ∃ us, (zipV kvs vs).map (fun kv => if kv.1 = k then (kv.1, v) else kv) = zipV (kvs.map fun kv => if kv.1 = k then (kv.1, d) else kv) us ∧ RDs K p ((kvs.map fun kv => if kv.1 = k then (kv.1, d) else kv).map (·.2)) us
  | [], _, .nil => ⟨[], rfl, .nil⟩
  | q :: kvs, _, .cons (v := w) (vs := ws) h t => by
    obtain ⟨us, h1, h2⟩ := mapD_ok k r t
    by_cases e : q.1 = k
    · refine ⟨v :: us, ?_, ?_⟩
      · show (if q.1 = k then (q.1, v) else (q.1, w)) :: (zipV kvs ws).map _ = _
        rw [h1, if_pos e, List.map_cons, if_pos e]
        rfl
      · rw [List.map_cons, if_pos e]
        exact .cons r h2
    · refine ⟨w :: us, ?_, ?_⟩
      · show (if q.1 = k then (q.1, v) else (q.1, w)) :: (zipV kvs ws).map _ = _
        rw [h1, if_neg e, List.map_cons, if_neg e]
        rfl
      · rw [List.map_cons, if_neg e]
        exact .cons h h2
theorem putD_ok {d : D} {v : V} (k : κ) (r : RD K p d v) {kvs : List (κ × D)} {vs : List V} (h : RDs K p (kvs.map (·.2)) vs) : ∃ us, putK (zipV kvs vs) k v = zipV (putD kvs k d) us ∧ RDs K p ((putD kvs k d).map (·.2)) us := by
  have hl : kvs.length = vs.length := by rw [← h.len]; simp
  unfold putK putD
  rw [any_zip k hl]
  split
  · exact mapD_ok k r h
  · refine ⟨vs ++ [v], ?_, ?_⟩
    · unfold zipV
      rw [List.map_append, List.zip_append (by simpa using hl)]
      rfl
    · rw [List.map_append]
      exact h.append (.cons r .nil)
end
/-! ### keys -/
def keyD : D → Option Key
  | .int i => some (.inl i)
  | .str x => some (.inr x)
  | _ => none
def keyL : List D → Option (List Key)
  | [] => some []
  | x :: xs => match keyD x, keyL xs with
    | some k, some ks => some (k :: ks)
    | _, _ => none
def keyT : D → Option (List Key)
  | .tup xs => keyL xs
  | _ => none
section
variable {K : PySem.W.Frag} {p : Pt} {l : LS}
theorem keyD_ok {x : D} {v : V} {k : Key} (r : RD K p x v) (h : keyD x = some k) : v = kV k := by
  cases r <;> cases h <;> rfl
theorem keyL_ok : ∀ {xs : List D} {vs : List V} {ks : List Key}, RDs K p xs vs → keyL xs = some ks → vs = ks.map kV
  | [], _, _, .nil, h => by cases h; rfl
  | x :: xs, _, ks, .cons r t, h => by
    unfold keyL at h
    split at h
    · rename_i k1 ks1 h1 h2
      cases h
      rw [keyD_ok r h1, keyL_ok t h2]
      rfl
    · cases h
theorem keyT_ok {x : D} {v : V} {k : List Key} (r : RD K p x v) (h : keyT x = some k) : ∃ b, v = .ref b ∧ p.H b = some (.tup (k.map kV)) := by
  cases r with
  | tup h1 h2 =>
    have e := keyL_ok h2 h
    subst e
    exact ⟨_, rfl, h1⟩
  | _ => cases h
/-! ### what a dict holds -/
def dkOf (l : LS) : P → Option (List (Key × D))
  | .d (.dk ks vs) => some (ks.zip vs)
  | .loc n => match l[n]? with
    | some (.dk kvs) => some kvs
    | some (.fz (.dk ks vs)) => some (ks.zip vs)
    | _ => none
  | _ => none
def dtOf (l : LS) : P → Option (List (List Key × D))
  | .d (.dt ks vs) => some (ks.zip vs)
  | .loc n => match l[n]? with
    | some (.dt kvs) => some kvs
    | some (.fz (.dt ks vs)) => some (ks.zip vs)
    | _ => none
  | _ => none
theorem zip_fst {κ : Type} {ks : List κ} {xs : List D} (h : ks.length = xs.length) : (ks.zip xs).map (·.1) = ks := List.map_fst_zip (by omega)
theorem zip_snd {κ : Type} {ks : List κ} {xs : List D} (h : ks.length = xs.length) : (ks.zip xs).map (·.2) = xs := List.map_snd_zip (by omega)
theorem dk_rdD {ks : List Key} {xs : List D} {v : V} (r : RD K p (.dk ks xs) v) : ∃ a vs, v = .ref a ∧ Rd p.H a (.dK (zipV (ks.zip xs) vs)) ∧ RDs K p ((ks.zip xs).map (·.2)) vs := by
  cases r with
  | dk f h hl h2 => exact ⟨_, _, rfl, by unfold zipV; rw [zip_fst hl]; exact .inr ⟨_, h⟩, by rw [zip_snd hl]; exact h2⟩
theorem dt_rdD {ks : List (List Key)} {xs : List D} {v : V} (r : RD K p (.dt ks xs) v) : ∃ a vs, v = .ref a ∧ Rd p.H a (.dT (zipV (ks.zip xs) vs)) ∧ RDs K p ((ks.zip xs).map (·.2)) vs := by
  cases r with
  | dt f h hl h2 => exact ⟨_, _, rfl, by unfold zipV; rw [zip_fst hl]; exact .inr ⟨_, h⟩, by rw [zip_snd hl]; exact h2⟩
theorem dkOf_ok {x : P} {v : V} {kvs : List (Key × D)} (ce : Cells K p l) (r : RP K p x v) (h : dkOf l x = some kvs) : ∃ a vs, v = .ref a ∧ Rd p.H a (.dK (zipV kvs vs)) ∧ RDs K p (kvs.map (·.2)) vs := by
  unfold dkOf at h
  split at h
  · cases h
    exact dk_rdD r
  · obtain ⟨a, h1, rfl⟩ := r
    split at h
    · rename_i q
      cases h
      obtain ⟨b, h2, nf, vs, h3, h4⟩ := ce.2 _ _ q
      rw [h1] at h2
      cases h2
      exact ⟨a, vs, rfl, .inl h3, h4⟩
    · rename_i q
      cases h
      obtain ⟨b, h2, h3⟩ := ce.2 _ _ q
      rw [h1] at h2
      cases h2
      exact dk_rdD h3
    · cases h
  · cases h
theorem dtOf_ok {x : P} {v : V} {kvs : List (List Key × D)} (ce : Cells K p l) (r : RP K p x v) (h : dtOf l x = some kvs) : ∃ a vs, v = .ref a ∧ Rd p.H a (.dT (zipV kvs vs)) ∧ RDs K p (kvs.map (·.2)) vs := by
  unfold dtOf at h
  split at h
  · cases h
    exact dt_rdD r
  · obtain ⟨a, h1, rfl⟩ := r
    split at h
    · rename_i q
      cases h
      obtain ⟨b, h2, nf, vs, h3, h4⟩ := ce.2 _ _ q
      rw [h1] at h2
      cases h2
      exact ⟨a, vs, rfl, .inl h3, h4⟩
    · rename_i q
      cases h
      obtain ⟨b, h2, h3⟩ := ce.2 _ _ q
      rw [h1] at h2
      cases h2
      exact dt_rdD h3
    · cases h
  · cases h
/-- what stands at the key y, if x is a dict and y a key of its kind -/
def dLook (l : LS) (x y : P) : Option (Option D) := match y with
  | .d y => match dkOf l x with
    | some kvs => (keyD y).map (valD kvs)
    | none => match dtOf l x with
      | some kvs => (keyT y).map (valD kvs)
      | none => none
  | _ => none
theorem dLook_ok {x y : P} {vx vy : V} {o : Option D} (ce : Cells K p l) (rx : RP K p x vx) (ry : RP K p y vy) (h : dLook l x y = some o) :
    ∃ a ov, vx = .ref a ∧ DGet p.H a vy ov ∧ ((∃ d v, o = some d ∧ ov = some v ∧ RD K p d v) ∨ (o = none ∧ ov = none)) := by
  unfold dLook at h
  split at h
  · split at h
    · rename_i kvs hx
      obtain ⟨k, hk, rfl⟩ := Option.map_eq_some_iff.mp h
      obtain ⟨a, vs, rfl, h1, h2⟩ := dkOf_ok ce rx hx
      have e := keyD_ok ry hk
      subst e
      refine ⟨a, _, rfl, .inl ⟨_, k, h1, rfl, rfl⟩, ?_⟩
      rcases valD_ok k h2 with ⟨d, v, g1, g2, g3⟩ | ⟨g1, g2⟩
      · exact .inl ⟨d, v, g1, g2, g3⟩
      · exact .inr ⟨g1, g2⟩
    · split at h
      · rename_i kvs hx
        obtain ⟨k, hk, rfl⟩ := Option.map_eq_some_iff.mp h
        obtain ⟨a, vs, rfl, h1, h2⟩ := dtOf_ok ce rx hx
        obtain ⟨b, rfl, hb⟩ := keyT_ok ry hk
        refine ⟨a, _, rfl, .inr ⟨_, k, b, h1, rfl, hb, rfl⟩, ?_⟩
        rcases valD_ok k h2 with ⟨d, v, g1, g2, g3⟩ | ⟨g1, g2⟩
        · exact .inl ⟨d, v, g1, g2, g3⟩
        · exact .inr ⟨g1, g2⟩
      · cases h
  · cases h
/-! ### d[k], k in d -/
def rDGet : R2 := fun x y H Q => ∃ a v, x = .ref a ∧ DGet H a y (some v) ∧ Q v H
def oDGet (x y : P) (l : LS) (Q : P → LS → Prop) : Prop := ∃ d, dLook l x y = some (some d) ∧ Q (.d d) l
theorem ref_dget : RefOp K rDGet oDGet := fun p l x y vx vy Qd Q w ce rx ry ⟨d, h, q⟩ k => by
  obtain ⟨a, ov, rfl, g, ⟨d', v, e1, rfl, r⟩ | ⟨e, _⟩⟩ := dLook_ok ce rx ry h
  · cases e1
    exact ⟨a, v, rfl, g, k.same w ce (d := .d d) r q⟩
  · cases e
def rDIn (neg : Bool) : R2 := fun y x H Q => ∃ a o, x = .ref a ∧ DGet H a y o ∧ Q (.bl (if neg then !o.isSome else o.isSome)) H
def oDIn (neg : Bool) (y x : P) (l : LS) (Q : P → LS → Prop) : Prop := ∃ o, dLook l x y = some o ∧ Q (.d (.bl (if neg then !o.isSome else o.isSome))) l
theorem ref_din {neg : Bool} : RefOp K (rDIn neg) (oDIn neg) := fun p l y x vy vx Qd Q w ce ry rx ⟨o, h, q⟩ k => by
  obtain ⟨a, ov, rfl, g, hh⟩ := dLook_ok ce rx ry h
  have e : o.isSome = ov.isSome := by rcases hh with ⟨d, v, rfl, rfl, _⟩ | ⟨rfl, rfl⟩ <;> rfl
  rw [e] at q
  exact ⟨a, ov, rfl, g, k.same w ce (d := .d _) (RD.bl _) q⟩
end
theorem op_din {X : Cx} (hu : X.A.units + 1 < cLine) : OpR X (compareOp .In) (rDIn false) := fun pins s σ H x y v u Q I rx ry ⟨a, o, ey, g, q⟩ => by
  subst ey
  obtain rfl : u = Value.ref a := ry
  exact d_in hu I g rx fun s3 I3 => ⟨.bl o.isSome, H, I3, rfl, q⟩
theorem op_dnotin {X : Cx} (hu : X.A.units + 1 < cLine) : OpR X (compareOp .NotIn) (rDIn true) := fun pins s σ H x y v u Q I rx ry ⟨a, o, ey, g, q⟩ => by
  subst ey
  obtain rfl : u = Value.ref a := ry
  exact d_notIn hu I g rx fun s3 I3 => ⟨.bl (!o.isSome), H, I3, rfl, q⟩
section
variable {X : Cx} {W : WX} {a b e o i f : Expr} {wa wb we wo wi wf : WE} {pos : Pos}
theorem qe_dget (hu : X.A.units + 1 < cLine) (ha : QE X W a wa) (hb : QE X W b wb) (hs : PlainIx b) : QE X W (.Subscript a b pos) (wOp oDGet wa wb) := PE.imp (pe_dget hu ha hb hs) fun _ _ _ h => op_ok (r := rDGet) ref_dget h
/-! ### {} -/
def wNewK (_ : SS) (l : LS) (Q : P → LS → Prop) (_ : EK) : Prop := Q (.loc l.length) (l ++ [.dk []])
def wNewT (_ : SS) (l : LS) (Q : P → LS → Prop) (_ : EK) : Prop := Q (.loc l.length) (l ++ [.dt []])
theorem qe_newK : QE X W (.Dict [] [] pos) wNewK := PE.imp pe_dnewK fun σ H Q ⟨p, σd, l, Qd, Ed, hH, R, hw, k, lk⟩ => by
  subst hH
  refine fun a ha => k (.loc l.length) (l ++ [.dk []]) (.ref a) (p.new a (.dK [])) (ext_new ha) (R.ext (ext_new ha) (wf_new R.wf ha) (Cells.new (c := .dk []) R.wf R.ce ha (show CellOk X.K (p.new a (.dK [])) (.dk []) a from ⟨fun z => R.wf.nF ha z, [], upd_same, .nil⟩))) ⟨a, ?_, rfl⟩ (show Qd (.loc l.length) (l ++ [.dk []]) from hw)
  show (p.rho ++ [a])[l.length]? = some a
  rw [R.ce.1, List.getElem?_append_right (Nat.le_refl _)]
  simp
theorem qe_newT : QE X W (.Dict [] [] pos) wNewT := PE.imp pe_dnewT fun σ H Q ⟨p, σd, l, Qd, Ed, hH, R, hw, k, lk⟩ => by
  subst hH
  refine fun a ha => k (.loc l.length) (l ++ [.dt []]) (.ref a) (p.new a (.dT [])) (ext_new ha) (R.ext (ext_new ha) (wf_new R.wf ha) (Cells.new (c := .dt []) R.wf R.ce ha (show CellOk X.K (p.new a (.dT [])) (.dt []) a from ⟨fun z => R.wf.nF ha z, [], upd_same, .nil⟩))) ⟨a, ?_, rfl⟩ (show Qd (.loc l.length) (l ++ [.dt []]) from hw)
  show (p.rho ++ [a])[l.length]? = some a
  rw [R.ce.1, List.getElem?_append_right (Nat.le_refl _)]
  simp
/-! ### d[k] = v -/
def rSetD : TSet := fun o i v H Q => ∃ a H', o = .ref a ∧ DPut H a i v H' ∧ Q H'
theorem set_dict (hu : X.A.units + 1 < cLine) : PSet X rSetD := fun pins s σ H o i v ov iv u Q I ro ri rv ⟨a, H', eo, g, q⟩ => by
  subst eo
  obtain rfl : ov = Value.ref a := ro
  exact d_setItem hu I g ri rv fun s' I' => ⟨H', I', q⟩
/-- the cells behind d[k] = v -/
def dPut (l : LS) (n : Nat) (y v : D) : Option LS := match l[n]? with
  | some (.dk kvs) => (keyD y).map fun k => l.set n (.dk (putD kvs k v))
  | some (.dt kvs) => (keyT y).map fun k => l.set n (.dt (putD kvs k v))
  | _ => none
def dLen (l : LS) (n : Nat) : Nat := match l[n]? with
  | some (.dk kvs) => kvs.length
  | some (.dt kvs) => kvs.length
  | _ => 0
theorem zipV_len {κ : Type} {K : PySem.W.Frag} {p : Pt} {kvs : List (κ × D)} {vs : List V} (h : RDs K p (kvs.map (·.2)) vs) : (zipV kvs vs).length = kvs.length := by
  have := h.len
  simp at this
  simp [zipV, ← this]
theorem dPut_ok {K : PySem.W.Frag} {p : Pt} {l l' : LS} {n : Nat} {y v : D} {vx vy vv : V} (w : WF p) (ce : Cells K p l) (rx : RP K p (.loc n) vx) (ry : RD K p y vy) (rv : RD K p v vv) (h : dPut l n y v = some l') (hz : dLen l n < sizeLine) :
    ∃ a H', vx = .ref a ∧ DPut p.H a vy vv H' ∧ ∃ p', p'.H = H' ∧ Ext p p' ∧ WF p' ∧ Cells K p' l' := by
  obtain ⟨a, h1, rfl⟩ := rx
  have hr := List.mem_of_getElem? h1
  unfold dPut at h
  unfold dLen at hz
  split at h
  · rename_i kvs q
    rw [q] at hz
    obtain ⟨k, hk, rfl⟩ := Option.map_eq_some_iff.mp h
    obtain ⟨b, h2, nf, vs, h3, h4⟩ := ce.2 n _ q
    rw [h1] at h2
    cases h2
    have e := keyD_ok ry hk
    subst e
    obtain ⟨us, g1, g2⟩ := putD_ok k rv h4
    refine ⟨a, _, rfl, DPut.k h3 (by rw [show ((kvs.map (·.1)).zip vs).length = _ from zipV_len h4]; exact hz), p.put a (.dK (putK (zipV kvs vs) k vv)), rfl, ext_put hr nf (fun _ z => by rw [h3] at z; cases z), wf_put w, Cells.put w ce h1 nf (fun _ z => by rw [h3] at z; cases z) ?_⟩
    exact ⟨nf, us, by show upd _ _ _ _ = _; rw [upd_same, g1]; rfl, g2.mono (ext_put hr nf (fun _ z => by rw [h3] at z; cases z)).hf⟩
  · rename_i kvs q
    rw [q] at hz
    obtain ⟨k, hk, rfl⟩ := Option.map_eq_some_iff.mp h
    obtain ⟨b, h2, nf, vs, h3, h4⟩ := ce.2 n _ q
    rw [h1] at h2
    cases h2
    obtain ⟨c, rfl, hc⟩ := keyT_ok ry hk
    obtain ⟨us, g1, g2⟩ := putD_ok k rv h4
    refine ⟨a, _, rfl, DPut.t h3 hc (by rw [show ((kvs.map (·.1)).zip vs).length = _ from zipV_len h4]; exact hz), p.put a (.dT (putK (zipV kvs vs) k vv)), rfl, ext_put hr nf (fun _ z => by rw [h3] at z; cases z), wf_put w, Cells.put w ce h1 nf (fun _ z => by rw [h3] at z; cases z) ?_⟩
    exact ⟨nf, us, by show upd _ _ _ _ = _; rw [upd_same, g1]; rfl, g2.mono (ext_put hr nf (fun _ z => by rw [h3] at z; cases z)).hf⟩
  · cases h
def kSubD2 (d : P) (σ : SS) (x : P) (Q : SS → LS → Prop) (y : P) (l : LS) : Prop := match d, x, y with
  | .d v, .loc n, .d k => dLen l n < sizeLine ∧ ∃ l', dPut l n k v = some l' ∧ Q σ l'
  | _, _, _ => False
def kSubD1 (wi : WE) (d : P) (σ : SS) (Q : SS → LS → Prop) (x : P) (l : LS) : Prop := wi σ l (kSubD2 d σ x Q) noEx
def gSubD (wo wi : WE) (d : P) (σ : SS) (l : LS) (Q : SS → LS → Prop) : Prop := wo σ l (kSubD1 wi d σ Q) noEx
theorem qg_subD (hu : X.A.units + 1 < cLine) (ho : QE X W o wo) (hi : QE X W i wi)
    (ha : ∀ v, assign (.Subscript o i pos) X.env v = (do
      let ov ← holding [v] (eval o X.env)
      let iv ← holding [v, ov] (eval i X.env)
      standAt pos
      holding [v, ov, iv] (setItem ov iv v)
      release [v, ov, iv] []) := by intro _; rfl) : QG X (.Subscript o i pos) (gSubD wo wi) := PG.imp (pg_sub ho hi (set_dict hu) ha) fun v σ H Q ⟨p, σd, l, d, Qd, hH, R, r, hw, k⟩ => by
  subst hH
  refine cE_ok R hw LinkE.never fun x l1 vx p1 e1 R1 r1 q1 => cE_ok R1 q1 LinkE.never fun y l2 vy p2 e2 R2 r2 q2 => ?_
  unfold kSubD2 at q2
  split at q2
  · obtain ⟨hz, l', h, q⟩ := q2
    obtain ⟨a, H', rfl, g, p3, rfl, e3, w3, c3⟩ := dPut_ok R2.wf R2.ce (r1.mono e2) r2 (RD.mono (e1.trans e2).hf r) h hz
    exact ⟨a, p3.H, rfl, g, k p3 σ σd l' ((e1.trans e2).trans e3) (R2.ext e3 w3 c3) q⟩
  · exact q2.elim
/-! ### d.get(k, x) -/
def kGet3 (x y : P) (Q : P → LS → Prop) (z : P) (l : LS) : Prop := match z with
  | .d z => ∃ o, dLook l x y = some o ∧ Q (.d (o.getD z)) l
  | _ => False
def kGet2 (wf : WE) (σ : SS) (x : P) (Q : P → LS → Prop) (E : EK) (y : P) (l : LS) : Prop := wf σ l (kGet3 x y Q) E
def kGet1 (wi wf : WE) (σ : SS) (Q : P → LS → Prop) (E : EK) (x : P) (l : LS) : Prop := ((dkOf l x).isSome = true ∨ (dtOf l x).isSome = true) ∧ wi σ l (kGet2 wf σ x Q E) E
def wGet (wo wi wf : WE) (σ : SS) (l : LS) (Q : P → LS → Prop) (E : EK) : Prop := wo σ l (kGet1 wi wf σ Q E) E
theorem isD_ok {K : PySem.W.Frag} {p : Pt} {l : LS} {x : P} {v : V} (ce : Cells K p l) (r : RP K p x v) (h : (dkOf l x).isSome = true ∨ (dtOf l x).isSome = true) : ∃ a, v = .ref a ∧ IsD p.H a := by
  rcases h with h | h
  · obtain ⟨kvs, e⟩ := Option.isSome_iff_exists.mp h
    obtain ⟨a, vs, rfl, h1, _⟩ := dkOf_ok ce r e
    exact ⟨a, rfl, .inl ⟨_, h1⟩⟩
  · obtain ⟨kvs, e⟩ := Option.isSome_iff_exists.mp h
    obtain ⟨a, vs, rfl, h1, _⟩ := dtOf_ok ce r e
    exact ⟨a, rfl, .inr ⟨_, h1⟩⟩
theorem qe_get2 {apos cpos : Pos} (hu : X.A.units + 1 < cLine) (ho : QE X W o wo) (he : QE X W e we) (hf : QE X W f wf) (m : M2 X o "get" apos e f cpos) : QE X W (.Call (.Attribute o "get" apos) [e, f] [] cpos) (wGet wo we wf) :=
  PE.imp (pe_dget2 hu ho he hf m) fun σ H Q ⟨p, σd, l, Qd, Ed, hH, R, hw, k, lk⟩ => by
    subst hH
    refine cE_ok R hw lk fun x l1 vx p1 e1 R1 r1 ⟨hd, q1⟩ => ?_
    obtain ⟨a, rfl, hD⟩ := isD_ok R1.ce r1 hd
    refine ⟨a, rfl, hD, cE_ok R1 q1 (lk.mono e1) fun y l2 vy p2 e2 R2 r2 q2 => cE_ok R2 q2 (lk.mono (e1.trans e2)) fun z l3 vz p3 e3 R3 r3 q3 => ?_⟩
    unfold kGet3 at q3
    split at q3
    · obtain ⟨ov, ho, q⟩ := q3
      obtain ⟨a', o', ea, g, hh⟩ := dLook_ok R3.ce (r1.mono (e2.trans e3)) (r2.mono e3) ho
      cases ea
      refine ⟨o', g, k _ _ _ p3 ((e1.trans e2).trans e3) R3 ?_ q⟩
      rcases hh with ⟨d, v, rfl, rfl, r⟩ | ⟨rfl, rfl⟩
      · exact r
      · exact r3
    · exact q3.elim
end
end QL
set_option Elab.async false
set_option linter.all false
set_option maxRecDepth 100000
set_option maxHeartbeats 4000000
/-! QD2: a display of one pair. -/
namespace QL
open PySem L2 PySem.Spec PyProof.Rows
def tDisp1T (tk tv : TE) : TE := fun σ H Q => ∀ p, H p = none → tk σ (upd H p (.dT [])) fun y H1 => tv σ H1 fun v H2 => H2 p = some (.dT []) ∧ ∃ b k, y = .ref b ∧ H2 b = some (.tup (k.map kV)) ∧ Q (.ref p) (upd H2 p (.dT [(k, v)]))
theorem pe_disp1T {X : Cx} {pos : Pos} {k v : Expr} {tk tv : TE} (hu : X.A.units + 1 < cLine) (hk : PE X k tk) (hv : PE X v tv) : PE X (.Dict [some k] [v] pos) (tDisp1T tk tv) := by
  refine ⟨fun pins s σ H Q I q => ?_⟩
  have hn := I.hok.fresh (Nat.le_refl s.heap.objs.size)
  have I1 := I.laid (a := s.heap.objs.size) (o := .dT []) (h' := s.heap.push { cls := .type "dict", data := .dict #[] }) (t' := s.toks) (fun _ _ q => Heap.get?_push_of_some _ q) (Nat.le_refl _) (dt_empty s.heap I.big)
  have hw := (pps_cons (pos := pos) hk hv pps_nil).run pins _ σ _ (fun ps H2 => match ps with
    | [(y, v)] => H2 s.heap.objs.size = some (.dT []) ∧ ∃ b k, y = .ref b ∧ H2 b = some (.tup (k.map kV)) ∧ Q (.ref s.heap.objs.size) (upd H2 s.heap.objs.size (.dT [(k, v)]))
    | _ => False) I1 (q _ hn)
  have hl : (pairTrees [some k] [v] X.env pos).length = 1 := pairTrees_length _ _ _ _ rfl rfl
  rw [arm_eval_Dict, zip_pairTrees [some k] [v] X.env pos rfl rfl, dictDisplay_pairs _ (by intro z; rw [z] at hl; cases hl) (by omega)]
  refine wpAny_bind (wpAny_standAt (wpAny_bind (wpAny_subDictH (knd := tupleKind (mixKind X.prog X.w)) (show X.A.units < cLine from Nat.lt_of_succ_lt hu) (by omega) (thn hw fun ws s2 ⟨ps, H2, I2, rel, q2⟩ => ?_))))
  cases rel with
  | nil => exact q2.elim
  | @cons p1 w1 ps ws r0 t =>
    cases t with
    | cons _ _ => exact q2.elim
    | nil =>
      obtain ⟨y, vv⟩ := p1
      obtain ⟨wy, wv⟩ := w1
      obtain ⟨e, b, kk, ey, hb, q2⟩ := q2
      subst ey
      obtain ⟨ry, rv⟩ := r0
      obtain rfl : wy = Value.ref b := ry
      obtain ⟨z, hd, xs, r1, dd⟩ := dt_of I2.hok e
      cases r1
      refine ⟨[(kk, b, wv)], ⟨rfl, rfl, key_of I2.hok hb, True.intro⟩, dd, fun h' tk dd' hs => wpAny_pure ⟨.ref s.heap.objs.size, _, ?_, rfl, q2⟩⟩
      have e1 : storedAllH [] [(kk, b, wv)] = [(kk, b, wv)] := rfl
      rw [e1] at dd'
      obtain ⟨qo, es, ep, hq, h2, h3, h4, _, h5⟩ := dd'
      refine d_write I2 (by rw [e]; exact True.intro) hs ⟨qo, hq⟩ ⟨by rw [List.length_singleton, sizeLine_eq]; omega, hd, [(kk, b, wv)], .cons ⟨rfl, ?_, rv⟩ .nil, qo, es, ep, hq, h2, h3, h4, h5⟩
      rw [upd_ne (ne_of hb e (fun z => nomatch z))]
      exact hb
/-! ### an object that is made before its parts -/
section
variable {K : PySem.W.Frag} {p p2 : Pt} {a : Addr} {l l2 : LS}
abbrev Pt.hid (p : Pt) (a : Addr) (o : HO) : Pt := ⟨upd p.H a o, p.rho, p.F⟩
theorem hid_ext {o : HO} (ha : p.H a = none) : Ext p (p.hid a o) :=
  ⟨⟨[], by simp⟩, fun _ z => .inl z, fun _ z => z, fun _ z => .inl z, fun b u z _ => by show upd _ _ _ _ = _; rw [upd_ne (ne_of_none z ha)]; exact z, fun b u z _ => by show upd _ _ _ _ = _; rw [upd_ne (ne_of_none z ha)]; exact z, fun b u z => upd_some z, fun b u z => by show upd _ _ _ _ = _; rw [upd_ne (ne_of_none z ha)]; exact z⟩
theorem hid_wf {o : HO} (w : WF p) : WF (p.hid a o) :=
  ⟨w.nd, fun b m => let ⟨_, z⟩ := w.hs b m; upd_some z, fun b m => let ⟨_, z⟩ := w.fs b m; upd_some z⟩
theorem hid_cells {o : HO} (w : WF p) (ce : Cells K p l) (ha : p.H a = none) : Cells K (p.hid a o) l := by
  refine ⟨ce.1, fun i c e => ?_⟩
  obtain ⟨b, h1, h2⟩ := ce.2 i c e
  have nb : b ≠ a := fun z => w.nrho ha (by rw [← z]; exact List.mem_of_getElem? h1)
  exact ⟨b, h1, h2.mono (hid_ext ha) (by show upd _ _ _ _ = _; rw [upd_ne nb]) fun z => z⟩
abbrev Pt.shw (p : Pt) (a : Addr) (o : HO) : Pt := ⟨upd p.H a o, p.rho ++ [a], p.F⟩
theorem hid_out {o : HO} (w : WF p) (ha : p.H a = none) (e : Ext (p.hid a o) p2) : p2.H a = some o ∧ a ∉ p2.rho ∧ ¬ p2.F a := by
  have nr := w.nrho ha
  have nf := w.nF ha
  have h1 : (p.hid a o).H a = some o := upd_same
  refine ⟨e.keep a o h1 nr, fun m => ?_, fun m => ?_⟩
  · rcases e.new a m with z | z
    · exact nr z
    · rw [h1] at z; cases z
  · rcases e.fn a m with z | z | z
    · exact nf z
    · rw [h1] at z; cases z
    · exact nr z
theorem shw_ok {o o3 : HO} {c : Cell} (ho : ∀ vs, o ≠ .tup vs) (w : WF p) (ha : p.H a = none) (e : Ext (p.hid a o) p2) (w2 : WF p2) (c2 : Cells K p2 l2) (hc : CellOk K (p2.shw a o3) c a) : Ext p (p2.shw a o3) ∧ WF (p2.shw a o3) ∧ Cells K (p2.shw a o3) (l2 ++ [c]) ∧ HF p2 (p2.shw a o3) := by
  obtain ⟨h1, nr, nf⟩ := hid_out w ha e
  have e0 : Ext p p2 := (hid_ext ha).trans e
  have hf : HF p2 (p2.shw a o3) := ⟨fun _ z => z, fun b u z f => by show upd _ _ _ _ = _; rw [upd_ne fun q => nf (by rw [← q]; exact f)]; exact z, fun b u z => by show upd _ _ _ _ = _; rw [upd_ne fun q => by rw [q, h1] at z; injection z with z; exact ho _ z]; exact z⟩
  obtain ⟨t, ht⟩ := e0.pre
  refine ⟨⟨⟨t ++ [a], by show p2.rho ++ [a] = _; rw [ht, List.append_assoc]⟩, fun b z => ?_, e0.fm, e0.fn, fun b u z n => ?_, fun b u z n => ?_, fun b u z => ?_, fun b u z => by show upd _ _ _ _ = _; rw [upd_ne (ne_of_none z ha)]; exact e0.tups b u z⟩, ⟨?_, fun b m => ?_, fun b m => ?_⟩, ⟨by simp [c2.1], fun i d q => ?_⟩, hf⟩
  · rcases List.mem_append.mp z with z | z
    · exact e0.new b z
    · simp at z
      exact .inr (by rw [z]; exact ha)
  · show upd _ _ _ _ = _
    rw [upd_ne (ne_of_none z ha)]; exact e0.keep b u z n
  · show upd _ _ _ _ = _
    rw [upd_ne (ne_of_none z ha)]; exact e0.keepF b u z n
  · obtain ⟨o', z'⟩ := e0.there b u z
    exact upd_some z'
  · show (p2.rho ++ [a]).Nodup
    rw [List.nodup_append]
    refine ⟨w2.nd, by simp, fun x hx y hy q => ?_⟩
    simp at hy
    exact nr (by rw [← hy, ← q]; exact hx)
  · rcases List.mem_append.mp m with m | m
    · obtain ⟨u, z⟩ := w2.hs b m
      exact upd_some z
    · simp at m
      exact ⟨o3, by show upd _ _ _ _ = _; rw [m, upd_same]⟩
  · obtain ⟨u, z⟩ := w2.fs b m
    exact upd_some z
  · by_cases hi : i < l2.length
    · rw [List.getElem?_append_left hi] at q
      obtain ⟨b, q1, q2⟩ := c2.2 i d q
      have nb : b ≠ a := fun z => nr (by rw [← z]; exact List.mem_of_getElem? q1)
      refine ⟨b, ?_, q2.hf hf (by show upd _ _ _ _ = _; rw [upd_ne nb]) fun z => z⟩
      show (p2.rho ++ [a])[i]? = _
      rw [List.getElem?_append_left (by rw [← c2.1]; exact hi)]
      exact q1
    · have hi' : i = l2.length := by
        have := (List.getElem?_eq_some_iff.mp q).1
        simp at this
        omega
      subst hi'
      rw [List.getElem?_append_right (Nat.le_refl _)] at q
      simp at q
      subst q
      refine ⟨a, ?_, hc⟩
      show (p2.rho ++ [a])[l2.length]? = _
      rw [c2.1, List.getElem?_append_right (Nat.le_refl _)]
      simp
end
def mkK (y v : D) : Option Cell := (keyD y).map fun k => .dk [(k, v)]
def mkT (y v : D) : Option Cell := (keyT y).map fun k => .dt [(k, v)]
def kDs2 (mk : D → D → Option Cell) (y : P) (Q : P → LS → Prop) (v : P) (l : LS) : Prop := match y, v with
  | .d y, .d v => ∃ c, mk y v = some c ∧ Q (.loc l.length) (l ++ [c])
  | _, _ => False
def kDs1 (mk : D → D → Option Cell) (wv : WE) (σ : SS) (Q : P → LS → Prop) (E : EK) (y : P) (l : LS) : Prop := wv σ l (kDs2 mk y Q) E
def wDs (mk : D → D → Option Cell) (wk wv : WE) (σ : SS) (l : LS) (Q : P → LS → Prop) (E : EK) : Prop := wk σ l (kDs1 mk wv σ Q E) E
section
variable {X : Cx} {W : WX} {e f : Expr} {we wf : WE} {pos : Pos}
theorem shw_ref {K : PySem.W.Frag} {p2 : Pt} {a : Addr} {o : HO} {l2 : LS} (c2 : Cells K p2 l2) : RP K (p2.shw a o) (.loc l2.length) (.ref a) := ⟨a, by
  show (p2.rho ++ [a])[l2.length]? = some a
  rw [c2.1, List.getElem?_append_right (Nat.le_refl _)]
  simp, rfl⟩
theorem qe_dispT (hu : X.A.units + 1 < cLine) (hk : QE X W e we) (hv : QE X W f wf) : QE X W (.Dict [some e] [f] pos) (wDs mkT we wf) := PE.imp (pe_disp1T hu hk hv) fun σ H Q ⟨p, σd, l, Qd, Ed, hH, R, hw, k, lk⟩ => by
  subst hH
  refine fun a ha => ?_
  have e0 : Ext p (p.hid a (.dT [])) := hid_ext ha
  have R0 : Rel X.K (p.hid a (.dT [])) σ σd l := R.ext e0 (hid_wf R.wf) (hid_cells R.wf R.ce ha)
  refine cE_ok R0 hw (lk.mono e0) fun y l1 vy p1 e1 R1 r1 q1 => cE_ok R1 q1 (lk.mono (e0.trans e1)) fun v l2 vv p2 e2 R2 r2 q2 => ?_
  have e12 := e1.trans e2
  obtain ⟨h1, nr, nf⟩ := hid_out R.wf ha e12
  unfold kDs2 at q2
  split at q2
  · obtain ⟨c, hc, q⟩ := q2
    obtain ⟨kk, hk, rfl⟩ := Option.map_eq_some_iff.mp hc
    obtain ⟨b, rfl, hb⟩ := keyT_ok (RD.mono e2.hf r1) hk
    refine ⟨h1, b, kk, rfl, hb, ?_⟩
    have hf : HF p2 (p2.shw a (.dT [(kk, vv)])) := ⟨fun _ z => z, fun b u z f => by show upd _ _ _ _ = _; rw [upd_ne fun q => nf (by rw [← q]; exact f)]; exact z, fun b u z => by show upd _ _ _ _ = _; rw [upd_ne fun q => by rw [q, h1] at z; cases z]; exact z⟩
    obtain ⟨e3, w3, c3, _⟩ := shw_ok (o := .dT []) (fun _ z => nomatch z) (o3 := .dT [(kk, vv)]) R.wf ha e12 R2.wf R2.ce (show CellOk X.K (p2.shw a (.dT [(kk, vv)])) (.dt [(kk, _)]) a from ⟨nf, [vv], upd_same, .cons (RD.mono hf r2) .nil⟩)
    exact k _ _ _ (p2.shw a (.dT [(kk, vv)])) e3 (R.ext e3 w3 c3) (shw_ref R2.ce) q
  · exact q2.elim
theorem qe_dispK (hk : QE X W e we) (hv : QE X W f wf) : QE X W (.Dict [some e] [f] pos) (wDs mkK we wf) := PE.imp (pe_disp (pps_cons hk hv pps_nil) (by rfl) (by rfl) (by intro z; cases z) (by show 1 ≤ 15; decide)) fun σ H Q ⟨p, σd, l, Qd, Ed, hH, R, hw, k, lk⟩ => by
  subst hH
  refine fun a ha => ?_
  have e0 : Ext p (p.hid a (.dK [])) := hid_ext ha
  have R0 : Rel X.K (p.hid a (.dK [])) σ σd l := R.ext e0 (hid_wf R.wf) (hid_cells R.wf R.ce ha)
  refine cE_ok R0 hw (lk.mono e0) fun y l1 vy p1 e1 R1 r1 q1 => cE_ok R1 q1 (lk.mono (e0.trans e1)) fun v l2 vv p2 e2 R2 r2 q2 => ?_
  have e12 := e1.trans e2
  obtain ⟨h1, nr, nf⟩ := hid_out R.wf ha e12
  unfold kDs2 at q2
  split at q2
  · obtain ⟨c, hc, q⟩ := q2
    obtain ⟨kk, hk, rfl⟩ := Option.map_eq_some_iff.mp hc
    have ek := keyD_ok (RD.mono e2.hf r1) hk
    subst ek
    refine ⟨h1, [(kk, vv)], rfl, by simp, ?_⟩
    have hf : HF p2 (p2.shw a (.dK [(kk, vv)])) := ⟨fun _ z => z, fun b u z f => by show upd _ _ _ _ = _; rw [upd_ne fun q => nf (by rw [← q]; exact f)]; exact z, fun b u z => by show upd _ _ _ _ = _; rw [upd_ne fun q => by rw [q, h1] at z; cases z]; exact z⟩
    obtain ⟨e3, w3, c3, _⟩ := shw_ok (o := .dK []) (fun _ z => nomatch z) (o3 := .dK [(kk, vv)]) R.wf ha e12 R2.wf R2.ce (show CellOk X.K (p2.shw a (.dK [(kk, vv)])) (.dk [(kk, _)]) a from ⟨nf, [vv], upd_same, .cons (RD.mono hf r2) .nil⟩)
    exact k _ _ _ (p2.shw a (.dK [(kk, vv)])) e3 (R.ext e3 w3 c3) (shw_ref R2.ce) q
  · exact q2.elim
end
end QL
set_option Elab.async false
set_option linter.all false
set_option maxRecDepth 100000
set_option maxHeartbeats 4000000
/-! QD3: len of a dict. -/
open PySem L2 in
theorem L2.Room.u1 {k : Nat} {A : Around} (r : Room k A) : A.units + 1 < cLine := by have := r.un; omega
namespace QL
open PySem L2
def rLenDc : List V → Hp → VK → Prop := fun xs H Q => (∃ a kvs, xs = [V.ref a] ∧ Rd H a (.dK kvs) ∧ Q (.int kvs.length) H) ∨ ∃ a kvs, xs = [V.ref a] ∧ Rd H a (.dT kvs) ∧ Q (.int kvs.length) H
theorem call_lenDc {X : Cx} : CallR X (.builtin "len") rLenDc := fun pins s σ H xs us Q I r h => by
  rcases h with ⟨a, kvs, rfl, ha, q⟩ | ⟨a, kvs, rfl, ha, q⟩
  · obtain ⟨u, rfl, ru⟩ := vals1 r
    cases ru
    exact d_len I ha fun t s' I' => ⟨.int kvs.length, H, I', ⟨_, rfl⟩, q⟩
  · obtain ⟨u, rfl, ru⟩ := vals1 r
    cases ru
    obtain ⟨z, hd, ys, rel, dd⟩ := dt_rd I.hok ha
    have e : kvs.length = ys.length := Paired.length rel
    refine call_len_dictH hd dd (by rw [← e]; rw [sizeLine_eq] at z; omega) ?_
    rw [← e]
    exact ⟨.int kvs.length, H, I.tok _, ⟨_, rfl⟩, q⟩
def bLenDc (xs : List P) (l : LS) (Q : P → LS → Prop) : Prop := match xs with
  | [x] => match dkOf l x with
    | some kvs => Q (.d (.int (kvs.length : Int))) l
    | none => match dtOf l x with
      | some kvs => Q (.d (.int (kvs.length : Int))) l
      | none => False
  | _ => False
theorem ref_lenDc {K : PySem.W.Frag} : RefCall K rLenDc bLenDc := fun p l xs vs Qd Q w ce rx h k => by
  unfold bLenDc at h
  split at h
  · obtain ⟨v, rfl, r⟩ := rx.one
    split at h
    · rename_i kvs hy
      obtain ⟨a, us, rfl, h1, h2⟩ := dkOf_ok ce r hy
      refine .inl ⟨a, _, rfl, h1, ?_⟩
      rw [zipV_len h2]
      exact k.same w ce (d := .d _) (RD.int _) h
    · split at h
      · rename_i kvs hy
        obtain ⟨a, us, rfl, h1, h2⟩ := dtOf_ok ce r hy
        refine .inr ⟨a, _, rfl, h1, ?_⟩
        rw [zipV_len h2]
        exact k.same w ce (d := .d _) (RD.int _) h
      · exact h.elim
  · exact h.elim
/-- over a tuple or a list -/
def iOr (w1 w2 : WI) (σ : SS) (l : LS) (R : Items → LS → Prop) (E : EK) : Prop := w1 σ l R E ∨ w2 σ l R E
theorem qi_or {X : Cx} {W : WX} {tg e : Expr} {w1 w2 : WI} (h1 : QI X W tg e w1) (h2 : QI X W tg e w2) : QI X W tg e (iOr w1 w2) := ⟨fun pins s σ H R I ⟨p, σd, l, Rd, Ed, hH, R0, hw, k, lk⟩ => by
  rcases hw with hw | hw
  · exact h1.run pins s σ H R I ⟨p, σd, l, Rd, Ed, hH, R0, hw, k, lk⟩
  · exact h2.run pins s σ H R I ⟨p, σd, l, Rd, Ed, hH, R0, hw, k, lk⟩⟩
end QL
set_option Elab.async false
set_option linter.all false
set_option maxRecDepth 100000
set_option maxHeartbeats 4000000
/-! QD4: walks of a dict; dicts of lists that grow (setdefault, get); statements that are never reached. -/
open PySem PySem.Spec PyProof.Rows in
/-- d.setdefault(k, x), keys of either kind -/
theorem L2.d_setdT {X : L2.Cx} {pins : List (Addr × Obj)} {σ : L2.St} {H : L2.Hp} {s : Shared} {a b : Addr} {r : Value} {d : L2.V} {k : List L2.Key} {A : Around} {E : Value → Shared → Prop} {kvs : List (List L2.Key × L2.V)} {Q : Value → Shared → Prop} (hu : A.units + 1 < cLine) (I : L2.Inv X pins σ H s) (e : H a = some (.dT kvs)) (eb : H b = some (.tup (k.map L2.kV))) (rd : L2.RelV d r) (hl : kvs.length < sizeLine)
    (h1 : ∀ v, L2.valV kvs k = some v → ∀ (w' : Value) (s' : Shared), L2.Inv X pins σ H s' → L2.RelV v w' → Q w' s') (h2 : L2.valV kvs k = none → ∀ (w' : Value) (s' : Shared), L2.Inv X pins σ (L2.upd H a (.dT (L2.putK kvs k d))) s' → L2.RelV d w' → Q w' s') :
    wpAny (model X.prog X.w) A (call (.builtin "dict.setdefault") [.ref a, .ref b, r]) Q E s := by
  open L2 in
  obtain ⟨z, hd, xs, rel, dd⟩ := dt_of I.hok e
  have hz : xs.length ≤ sizeLine := by rw [← Paired.length rel]; exact z
  have hl2 : (putK kvs k d).length ≤ sizeLine := by have := length_putK kvs k d; omega
  have q := rel.val k
  refine call_meetsIn PySem.F.slot_dict_setdefault dd.typeIs PySem.F.entry_dict_setdefault (PySem.F.args_dict_setdefault_3 _ _ _) (meetsH_dict_setdefault (tupleKind (mixKind X.prog X.w)) a b hd r) ⟨tupleKind_room_in1 hu, k, xs, key_of I.hok eb, dd, hz, fun p hp => ?_, fun hn h' dd' hs => ?_⟩
  · rw [hp] at q
    cases q0 : valV kvs k with
    | none => rw [q0] at q; exact (show False from q).elim
    | some v0 => rw [q0] at q; exact h1 v0 q0 _ _ (I.tok _) q
  · rw [hn] at q
    cases q0 : valV kvs k with
    | some v0 => rw [q0] at q; exact (show False from q).elim
    | none =>
      obtain ⟨qq, es, ep, hq, g2, g3, g4, _, g5⟩ := dd'
      refine h2 q0 _ _ (d_write (t' := s.toks + (tupleKind (mixKind X.prog X.w)).draws k) I (by rw [e]; exact True.intro) hs ⟨qq, hq⟩ ⟨hl2, hd, _, (rel.put k eb rd).keeps fun c ys ec => ?_, qq, es, ep, hq, g2, g3, g4, g5⟩) rd
      rw [upd_ne (ne_of ec e (fun z => nomatch z))]
      exact ec
namespace L2
open PySem PySem.Spec PyProof.Rows
/-- what d.setdefault(y, z) does -/
def SetD (H : Hp) (a : Addr) (y z : V) (Q : VK) : Prop :=
  (∃ (kvs : List (Key × V)) (k : Key), H a = some (.dK kvs) ∧ y = kV k ∧ kvs.length < sizeLine ∧ (∀ v, valV kvs k = some v → Q v H) ∧ (valV kvs k = none → Q z (upd H a (.dK (putK kvs k z))))) ∨
  ∃ (kvs : List (List Key × V)) (k : List Key) (b : Addr), H a = some (.dT kvs) ∧ y = .ref b ∧ H b = some (.tup (k.map kV)) ∧ kvs.length < sizeLine ∧ (∀ v, valV kvs k = some v → Q v H) ∧ (valV kvs k = none → Q z (upd H a (.dT (putK kvs k z))))
def tSetd2 (td ty tx : TE) : TE := fun σ H Q => td σ H fun x H1 => ∃ a, x = .ref a ∧ IsD H1 a ∧ ty σ H1 fun y H2 => tx σ H2 fun z H3 => SetD H3 a y z Q
theorem pe_setd2 {X : Cx} {o e f : Expr} {td ty tx : TE} {apos cpos : Pos} (hu : X.A.units + 1 < cLine) (ho : PE X o td) (he : PE X e ty) (hf : PE X f tx) (m : M2 X o "setdefault" apos e f cpos) : PE X (.Call (.Attribute o "setdefault" apos) [e, f] [] cpos) (tSetd2 td ty tx) := by
  refine ⟨fun pins s σ H Q I h => ?_⟩
  refine wpAny_Call_method m.base m.few m.line PySem.F.plainAttrs_dict PySem.F.slot_dict_setdefault PySem.F.type_dict_setdefault (thn (ho.run pins s σ H _ I h) fun u s1 ⟨x, H1, I1, rx, a, ex, d, q1⟩ => ?_)
  subst ex
  obtain rfl : u = Value.ref a := rx
  obtain ⟨t1, t2, _⟩ := isD_at I1 d
  refine ⟨t1, t2, ?_⟩
  rw [m.trees]
  refine Calls.callWith_builtin rfl (Calls.evalArgs_plain (Calls.spliced_cons (thn (he.run pins s1 σ H1 _ I1 q1) fun iv s2 ⟨y, H2, I2, ry, q2⟩ =>
    Calls.spliced_cons (thn (hf.run pins s2 σ H2 _ I2 q2) fun fv s3 ⟨z, H3, I3, rz, q3⟩ => Calls.spliced_nil ?_))))
  rcases q3 with ⟨kvs, k, ea, ey, hl, q4, q5⟩ | ⟨kvs, k, b, ea, ey, eb, hl, q4, q5⟩
  · subst ey
    exact d_setd I3 ea ry rz hl (fun v hv w' s4 I4 rw' => ⟨v, _, I4, rw', q4 v hv⟩) fun hn w' s4 I4 rw' => ⟨z, _, I4, rw', q5 hn⟩
  · subst ey
    cases (show iv = Value.ref b from ry)
    exact d_setdT hu I3 ea eb rz hl (fun v hv w' s4 I4 rw' => ⟨v, _, I4, rw', q4 v hv⟩) fun hn w' s4 I4 rw' => ⟨z, _, I4, rw', q5 hn⟩
end L2
namespace QL
open PySem L2
section
variable {X : Cx} {W : WX}
/-- a statement, an expression that is never reached -/
def wNever (_ : ED) (_ : SS) (_ : LS) : Prop := False
theorem qs_never {st : Stmt} : QS X W st wNever := ⟨fun pins s σ H D I h => by
  obtain ⟨_, _, _, _, _, _, h, _⟩ := h
  exact h.elim⟩
def wNeverE (_ : SS) (_ : LS) (_ : P → LS → Prop) (_ : EK) : Prop := False
theorem qe_never {e : Expr} : QE X W e wNeverE := ⟨fun pins s σ H Q I h => by
  obtain ⟨_, _, _, _, _, _, _, h, _⟩ := h
  exact h.elim⟩
/-! ### the keys of a dict that does not change any more -/
def kD : Key → D
  | .inl i => .int i
  | .inr x => .str x
theorem rd_kD {K : PySem.W.Frag} {p : Pt} (k : Key) : RD K p (kD k) (kV k) := by
  cases k with
  | inl i => exact .int i
  | inr x => exact .str x
theorem rds_kD {K : PySem.W.Frag} {p : Pt} : ∀ ks : List Key, RDs K p (ks.map kD) (ks.map kV)
  | [] => .nil
  | k :: ks => .cons (rd_kD k) (rds_kD ks)
def keysK (ks : List Key) : List D := ks.map kD
def keysT (ks : List (List Key)) : List D := ks.map fun k => .tup (k.map kD)
def kKeys (R : Items → LS → Prop) (x : P) (l : LS) : Prop := match x with
  | .d (.dk ks _) => R ⟨keysK ks, okAll⟩ l
  | .d (.dt ks _) => R ⟨keysT ks, okAll⟩ l
  | _ => False
def iKys (we : WE) (σ : SS) (l : LS) (R : Items → LS → Prop) (E : EK) : Prop := we σ l (kKeys R) E
theorem qi_keys {tg e : Expr} {we : WE} (h : QE X W e we) : QI X W tg e (iKys we) := PI.imp (pi_keys h) fun σ H R ⟨p, σd, l, Rd, Ed, hH, R0, hw, k, lk⟩ => by
  subst hH
  refine cE_ok R0 hw lk fun x l1 v p1 e1 R1 r1 q1 => ?_
  cases x with
  | d x =>
    cases x with
    | dk ks xs =>
      cases r1 with
      | @dk a ob _ _ vs f hd hl hr =>
        have hkl : (ks.zip vs).length = ks.length := by rw [List.length_zip, ← hr.len, ← hl]; simp
        refine ⟨a, ob, rfl, .inl ⟨_, hd, k ⟨keysK ks, okAll⟩ l1 _ p1 e1 R1 (fun p2 l2 e2 w2 c2 _ i => ?_) q1⟩⟩
        have h2 : p2.H a = some (.frz ob (.dK (ks.zip vs))) := e2.hf.keepF _ _ hd f
        refine ⟨fun hi => ⟨h2, by rw [hkl]; simpa [keysK] using hi⟩, fun hi => ⟨h2, by rw [hkl]; simpa [keysK] using hi⟩, fun y H' d hy hyl => ?_⟩
        obtain ⟨hH, kk, vv, hz, rfl⟩ := hyl
        refine ⟨p2, hH.symm, Ext.refl _, w2, c2, ?_⟩
        have h3 : ks[i]? = some kk := by
          have h4 := List.getElem?_zip_eq_some.mp hz
          exact h4.1
        unfold keysK at hy
        rw [List.getElem?_map, h3] at hy
        cases hy
        exact rd_kD kk
    | dt ks xs =>
      cases r1 with
      | @dt a ob _ _ vs f hd hl hr =>
        have hkl : (ks.zip vs).length = ks.length := by rw [List.length_zip, ← hr.len, ← hl]; simp
        refine ⟨a, ob, rfl, .inr ⟨_, hd, k ⟨keysT ks, okAll⟩ l1 _ p1 e1 R1 (fun p2 l2 e2 w2 c2 _ i => ?_) q1⟩⟩
        have h2 : p2.H a = some (.frz ob (.dT (ks.zip vs))) := e2.hf.keepF _ _ hd f
        refine ⟨fun hi => ⟨h2, by rw [hkl]; simpa [keysT] using hi⟩, fun hi => ⟨h2, by rw [hkl]; simpa [keysT] using hi⟩, fun y H' d hy hyl => ?_⟩
        obtain ⟨hH, kk, vv, q, hz, rfl, hq⟩ := hyl
        refine ⟨p2, hH.symm, Ext.refl _, w2, c2, ?_⟩
        have h3 : ks[i]? = some kk := by
          have h4 := List.getElem?_zip_eq_some.mp hz
          exact h4.1
        unfold keysT at hy
        rw [List.getElem?_map, h3] at hy
        cases hy
        exact RD.tup hq (rds_kD kk)
    | _ => exact q1.elim
  | _ => exact q1.elim
/-! ### dicts of lists that grow -/
def wNewTC (_ : SS) (l : LS) (Q : P → LS → Prop) (_ : EK) : Prop := Q (.loc l.length) (l ++ [.dtc []])
def wNewKC (_ : SS) (l : LS) (Q : P → LS → Prop) (_ : EK) : Prop := Q (.loc l.length) (l ++ [.dkc []])
theorem qe_newTC {pos : Pos} : QE X W (.Dict [] [] pos) wNewTC := PE.imp pe_dnewT fun σ H Q ⟨p, σd, l, Qd, Ed, hH, R, hw, k, lk⟩ => by
  subst hH
  refine fun a ha => k (.loc l.length) (l ++ [.dtc []]) (.ref a) (p.new a (.dT [])) (ext_new ha) (R.ext (ext_new ha) (wf_new R.wf ha) (Cells.new (c := .dtc []) R.wf R.ce ha (show CellOk X.K (p.new a (.dT [])) (.dtc []) a from ⟨fun z => R.wf.nF ha z, upd_same⟩))) ⟨a, ?_, rfl⟩ (show Qd (.loc l.length) (l ++ [.dtc []]) from hw)
  show (p.rho ++ [a])[l.length]? = some a
  rw [R.ce.1, List.getElem?_append_right (Nat.le_refl _)]
  simp
theorem qe_newKC {pos : Pos} : QE X W (.Dict [] [] pos) wNewKC := PE.imp pe_dnewK fun σ H Q ⟨p, σd, l, Qd, Ed, hH, R, hw, k, lk⟩ => by
  subst hH
  refine fun a ha => k (.loc l.length) (l ++ [.dkc []]) (.ref a) (p.new a (.dK [])) (ext_new ha) (R.ext (ext_new ha) (wf_new R.wf ha) (Cells.new (c := .dkc []) R.wf R.ce ha (show CellOk X.K (p.new a (.dK [])) (.dkc []) a from ⟨fun z => R.wf.nF ha z, upd_same⟩))) ⟨a, ?_, rfl⟩ (show Qd (.loc l.length) (l ++ [.dkc []]) from hw)
  show (p.rho ++ [a])[l.length]? = some a
  rw [R.ce.1, List.getElem?_append_right (Nat.le_refl _)]
  simp
/-- the place of a key's list -/
def adr {κ : Type} [DecidableEq κ] (kvs : List (κ × Addr)) (k : κ) : Option Addr := (kvs.find? fun q => decide (q.1 = k)).map (·.2)
theorem adr_val {κ : Type} [DecidableEq κ] (kvs : List (κ × Addr)) (k : κ) : valV (kvs.map fun q => (q.1, V.ref q.2)) k = (adr kvs k).map V.ref := by
  unfold valV adr
  rw [List.find?_map, Option.map_map, Option.map_map]
  rfl
theorem adr_put {κ : Type} [DecidableEq κ] {kvs : List (κ × Addr)} {k : κ} {b : Addr} (h : adr kvs k = none) : putK (kvs.map fun q => (q.1, V.ref q.2)) k (.ref b) = (kvs ++ [(k, b)]).map fun q => (q.1, V.ref q.2) := by
  unfold putK
  rw [if_neg]
  · simp
  · rw [valV_any, adr_val, h]
    decide
/-- the list at b as a cell -/
def ownAt (l : LS) (b : Addr) (Q : P → LS → Prop) : Prop := ∃ m xs, l[m]? = some (.own b xs) ∧ Q (.loc m) l
def kSd (x y : P) (l : LS) (Q : P → LS → Prop) : Prop := match x, y with
  | .loc n, .d y => match l[n]? with
    | some (.dtc kvs) => kvs.length < sizeLine ∧ ∃ k, keyT y = some k ∧ match adr kvs k with
      | some b => ownAt l b Q
      | none => ∀ b, Q (.loc l.length) (l.set n (.dtc (kvs ++ [(k, b)])) ++ [.own b []])
    | some (.dkc kvs) => kvs.length < sizeLine ∧ ∃ k, keyD y = some k ∧ match adr kvs k with
      | some b => ownAt l b Q
      | none => ∀ b, Q (.loc l.length) (l.set n (.dkc (kvs ++ [(k, b)])) ++ [.own b []])
    | _ => False
  | _, _ => False
def isC (l : LS) (x : P) : Prop := match x with
  | .loc n => match l[n]? with
    | some (.dtc _) => True
    | some (.dkc _) => True
    | _ => False
  | _ => False
def kSdL1 (wi : WE) (σ : SS) (Q : P → LS → Prop) (E : EK) (x : P) (l : LS) : Prop := isC l x ∧ wi σ l (fun y l => kSd x y l Q) E
def wSdL (wo wi : WE) (σ : SS) (l : LS) (Q : P → LS → Prop) (E : EK) : Prop := wo σ l (kSdL1 wi σ Q E) E
theorem isC_ok {K : PySem.W.Frag} {p : Pt} {l : LS} {x : P} {v : V} (ce : Cells K p l) (r : RP K p x v) (h : isC l x) : ∃ n a, x = .loc n ∧ v = .ref a ∧ p.rho[n]? = some a ∧ IsD p.H a ∧ ((∃ kvs, l[n]? = some (.dtc kvs) ∧ ¬ p.F a ∧ p.H a = some (.dT (kvs.map fun q => (q.1, V.ref q.2)))) ∨ ∃ kvs, l[n]? = some (.dkc kvs) ∧ ¬ p.F a ∧ p.H a = some (.dK (kvs.map fun q => (q.1, V.ref q.2)))) := by
  unfold isC at h
  split at h
  · rename_i n
    obtain ⟨a, h1, rfl⟩ := r
    split at h
    · rename_i kvs e
      obtain ⟨b, h2, nf, h3⟩ := ce.2 _ _ e
      rw [h1] at h2; cases h2
      exact ⟨n, a, rfl, rfl, h1, .inr ⟨_, .inl h3⟩, .inl ⟨kvs, e, nf, h3⟩⟩
    · rename_i kvs e
      obtain ⟨b, h2, nf, h3⟩ := ce.2 _ _ e
      rw [h1] at h2; cases h2
      exact ⟨n, a, rfl, rfl, h1, .inl ⟨_, .inl h3⟩, .inr ⟨kvs, e, nf, h3⟩⟩
    · exact h.elim
  · exact h.elim
theorem own_ref {K : PySem.W.Frag} {p : Pt} {l : LS} {m : Nat} {b : Addr} {xs : List D} (ce : Cells K p l) (h : l[m]? = some (.own b xs)) : RP K p (.loc m) (.ref b) := by
  obtain ⟨c, h1, rfl, _⟩ := ce.2 _ _ h
  exact ⟨c, h1, rfl⟩
/-- a written cell, then a new own list -/
theorem put_new {K : PySem.W.Frag} {p : Pt} {l : LS} {n : Nat} {a b : Addr} {o o' : HO} {c : Cell} (w : WF p) (ce : Cells K p l) (h1 : p.rho[n]? = some a) (nf : ¬ p.F a) (ho : p.H a = some o) (ht : ∀ vs, o ≠ .tup vs) (hb : p.H b = none)
    (hc : ∀ q : Pt, q.F = p.F → q.H a = some o' → CellOk K q c a) : ∃ q : Pt, q.H = upd (upd p.H b (.lst [])) a o' ∧ Ext p q ∧ WF q ∧ Cells K q (l.set n c ++ [.own b []]) ∧ RP K q (.loc l.length) (.ref b) := by
  have hr := List.mem_of_getElem? h1
  have nb : a ≠ b := fun z => by rw [z, hb] at ho; cases ho
  have e1 : Ext p (p.new b (.lst [])) := ext_new hb
  have w1 : WF (p.new b (.lst [])) := wf_new w hb
  have c1 : Cells K (p.new b (.lst [])) (l ++ [.own b []]) := Cells.new w ce hb (show CellOk K (p.new b (.lst [])) (.own b []) b from ⟨rfl, fun z => w.nF hb z, [], upd_same, .nil⟩)
  have hl : n < l.length := by rw [ce.1]; exact (List.getElem?_eq_some_iff.mp h1).1
  have h1' : (p.new b (.lst [])).rho[n]? = some a := by
    show (p.rho ++ [b])[n]? = some a
    rw [List.getElem?_append_left (by rw [← ce.1]; exact hl)]
    exact h1
  have ho' : (p.new b (.lst [])).H a = some o := by
    show upd p.H b (.lst []) a = some o
    rw [upd_ne nb]; exact ho
  have ht' : ∀ vs, (p.new b (.lst [])).H a ≠ some (.tup vs) := fun vs z => by rw [ho'] at z; injection z with z; exact ht _ z
  have hr' : a ∈ (p.new b (.lst [])).rho := List.mem_of_getElem? h1'
  have e2 : Ext (p.new b (.lst [])) ((p.new b (.lst [])).put a o') := ext_put hr' nf ht'
  have c2 := Cells.put (o := o') (c := c) w1 c1 h1' nf ht' (hc _ rfl upd_same)
  refine ⟨(p.new b (.lst [])).put a o', rfl, e1.trans e2, wf_put w1, ?_, ?_⟩
  · rw [List.set_append_left _ _ hl] at c2
    exact c2
  · refine ⟨b, ?_, rfl⟩
    show (p.rho ++ [b])[l.length]? = some b
    rw [ce.1, List.getElem?_append_right (Nat.le_refl _)]
    simp
theorem qe_sdL {o e : Expr} {wo we : WE} {apos cpos lpos : Pos} (hu : X.A.units + 1 < cLine) (ho : QE X W o wo) (he : QE X W e we) (m : M2 X o "setdefault" apos e (.List [] lpos) cpos) : QE X W (.Call (.Attribute o "setdefault" apos) [e, .List [] lpos] [] cpos) (wSdL wo we) :=
  PE.imp (pe_setd2 hu ho he (pe_lst pa_nil) m) fun σ H Q ⟨p, σd, l, Qd, Ed, hH, R, hw, k, lk⟩ => by
    subst hH
    refine cE_ok R hw lk fun x l1 vx p1 e1 R1 r1 ⟨hd, q1⟩ => ?_
    obtain ⟨n, a, rfl, rfl, _, hD, _⟩ := isC_ok R1.ce r1 hd
    refine ⟨a, rfl, hD, cE_ok R1 q1 (lk.mono e1) fun y l2 vy p2 e2 R2 r2 q2 => ?_⟩
    refine ⟨Nat.zero_le _, fun b hb => ?_⟩
    have E2 := e1.trans e2
    unfold kSd at q2
    split at q2
    · rename_i n2 y2 en
      cases en
      have r1' := r1.mono e2
      obtain ⟨a', g1, ea⟩ := r1'
      cases ea
      split at q2
      · rename_i kvs ek
        obtain ⟨hz, kk, hk, q2⟩ := q2
        obtain ⟨c, g2, nf, g3⟩ := R2.ce.2 _ _ ek
        rw [g1] at g2; cases g2
        obtain ⟨bk, rfl, hbk⟩ := keyT_ok r2 hk
        have nab : a ≠ b := fun z => by rw [z, hb] at g3; cases g3
        refine .inr ⟨_, kk, bk, by rw [upd_ne nab]; exact g3, rfl, by rw [upd_ne (ne_of_none hbk hb)]; exact hbk, by rw [List.length_map]; exact hz, fun v hv => ?_, fun hv => ?_⟩
        · rw [adr_val] at hv
          obtain ⟨b0, hb0, rfl⟩ := Option.map_eq_some_iff.mp hv
          rw [hb0] at q2
          obtain ⟨mm, xs, hm, q⟩ := q2
          have e3 : Ext p2 (p2.hid b (.lst [])) := hid_ext hb
          exact k (.loc mm) l2 (.ref b0) (p2.hid b (.lst [])) (E2.trans e3) (R2.ext e3 (hid_wf R2.wf) (hid_cells R2.wf R2.ce hb)) ((own_ref R2.ce hm).mono e3) q
        · rw [adr_val] at hv
          have hn : adr kvs kk = none := by
            cases h0 : adr kvs kk with
            | none => rfl
            | some _ => rw [h0] at hv; cases hv
          rw [hn] at q2
          obtain ⟨p3, hH3, e3, w3, c3, r3⟩ := put_new (c := .dtc (kvs ++ [(kk, b)])) (o' := .dT ((kvs ++ [(kk, b)]).map fun q => (q.1, V.ref q.2))) R2.wf R2.ce g1 nf g3 (fun _ z => nomatch z) hb (fun q hq hh => ⟨by rw [hq]; exact nf, hh⟩)
          rw [adr_put hn, ← hH3]
          exact k (.loc l2.length) _ (.ref b) p3 (E2.trans e3) (R2.ext e3 w3 c3) r3 (q2 b)
      · rename_i kvs ek
        obtain ⟨hz, kk, hk, q2⟩ := q2
        obtain ⟨c, g2, nf, g3⟩ := R2.ce.2 _ _ ek
        rw [g1] at g2; cases g2
        have ey := keyD_ok r2 hk
        have nab : a ≠ b := fun z => by rw [z, hb] at g3; cases g3
        refine .inl ⟨_, kk, by rw [upd_ne nab]; exact g3, ey, by rw [List.length_map]; exact hz, fun v hv => ?_, fun hv => ?_⟩
        · rw [adr_val] at hv
          obtain ⟨b0, hb0, rfl⟩ := Option.map_eq_some_iff.mp hv
          rw [hb0] at q2
          obtain ⟨mm, xs, hm, q⟩ := q2
          have e3 : Ext p2 (p2.hid b (.lst [])) := hid_ext hb
          exact k (.loc mm) l2 (.ref b0) (p2.hid b (.lst [])) (E2.trans e3) (R2.ext e3 (hid_wf R2.wf) (hid_cells R2.wf R2.ce hb)) ((own_ref R2.ce hm).mono e3) q
        · rw [adr_val] at hv
          have hn : adr kvs kk = none := by
            cases h0 : adr kvs kk with
            | none => rfl
            | some _ => rw [h0] at hv; cases hv
          rw [hn] at q2
          obtain ⟨p3, hH3, e3, w3, c3, r3⟩ := put_new (c := .dkc (kvs ++ [(kk, b)])) (o' := .dK ((kvs ++ [(kk, b)]).map fun q => (q.1, V.ref q.2))) R2.wf R2.ce g1 nf g3 (fun _ z => nomatch z) hb (fun q hq hh => ⟨by rw [hq]; exact nf, hh⟩)
          rw [adr_put hn, ← hH3]
          exact k (.loc l2.length) _ (.ref b) p3 (E2.trans e3) (R2.ext e3 w3 c3) r3 (q2 b)
      · exact q2.elim
    · exact q2.elim
end
end QL
set_option Elab.async false
set_option linter.all false
set_option maxRecDepth 100000
set_option maxHeartbeats 4000000
/-! QD5: dicts of lists that grow are read and frozen; dict(d). -/
namespace QL
open PySem L2
section
variable {X : Cx} {W : WX}
/-! ### d.get(k, []) -/
def kGl (x y : P) (l : LS) (Q : P → LS → Prop) : Prop := match x, y with
  | .loc n, .d y => match l[n]? with
    | some (.dtc kvs) => ∃ k, keyT y = some k ∧ match adr kvs k with
      | some b => ownAt l b Q
      | none => Q (.d (.lst [])) l
    | some (.dkc kvs) => ∃ k, keyD y = some k ∧ match adr kvs k with
      | some b => ownAt l b Q
      | none => Q (.d (.lst [])) l
    | _ => False
  | _, _ => False
def kGlL1 (wi : WE) (σ : SS) (Q : P → LS → Prop) (E : EK) (x : P) (l : LS) : Prop := isC l x ∧ wi σ l (fun y l => kGl x y l Q) E
def wGlL (wo wi : WE) (σ : SS) (l : LS) (Q : P → LS → Prop) (E : EK) : Prop := wo σ l (kGlL1 wi σ Q E) E
theorem qe_getL {o e : Expr} {wo we : WE} {apos cpos lpos : Pos} (hu : X.A.units + 1 < cLine) (ho : QE X W o wo) (he : QE X W e we) (m : M2 X o "get" apos e (.List [] lpos) cpos) : QE X W (.Call (.Attribute o "get" apos) [e, .List [] lpos] [] cpos) (wGlL wo we) :=
  PE.imp (pe_dget2 hu ho he (pe_lst pa_nil) m) fun σ H Q ⟨p, σd, l, Qd, Ed, hH, R, hw, k, lk⟩ => by
    subst hH
    refine cE_ok R hw lk fun x l1 vx p1 e1 R1 r1 ⟨hd, q1⟩ => ?_
    obtain ⟨n, a, rfl, rfl, _, hD, _⟩ := isC_ok R1.ce r1 hd
    refine ⟨a, rfl, hD, cE_ok R1 q1 (lk.mono e1) fun y l2 vy p2 e2 R2 r2 q2 => ?_⟩
    refine ⟨Nat.zero_le _, fun b hb => ?_⟩
    have E2 := e1.trans e2
    unfold kGl at q2
    split at q2
    · rename_i n2 y2 en
      cases en
      have r1' := r1.mono e2
      obtain ⟨a', g1, ea⟩ := r1'
      cases ea
      have e3 : Ext p2 (p2.hid b (.lst [])) := hid_ext hb
      have e4 : Ext p2 (p2.frz b (.lst [])) := ext_frz hb
      have R3 := R2.ext e3 (hid_wf R2.wf) (hid_cells R2.wf R2.ce hb)
      have R4 := R2.ext e4 (wf_frz R2.wf) (Cells.frz R2.wf R2.ce hb)
      have fin : ∀ o : Option Addr, (match o with | some b => ownAt l2 b Qd | none => Qd (.d (.lst [])) l2) → Q ((o.map V.ref).getD (.ref b)) (upd p2.H b (.lst [])) := fun o q => by
        cases o with
        | some b0 =>
          obtain ⟨mm, xs, hm, q⟩ := q
          exact k (.loc mm) l2 (.ref b0) (p2.hid b (.lst [])) (E2.trans e3) R3 ((own_ref R2.ce hm).mono e3) q
        | none => exact k (.d (.lst [])) l2 (.ref b) (p2.frz b (.lst [])) (E2.trans e4) R4 (show RP X.K (p2.frz b (.lst [])) (.d (.lst [])) (.ref b) from RD.lst ⟨Or.inr rfl, upd_same⟩ .nil) q
      split at q2
      · rename_i kvs ek
        obtain ⟨kk, hk, q2⟩ := q2
        obtain ⟨c, g2, nf, g3⟩ := R2.ce.2 _ _ ek
        rw [g1] at g2; cases g2
        obtain ⟨bk, rfl, hbk⟩ := keyT_ok r2 hk
        have nab : a ≠ b := fun z => by rw [z, hb] at g3; cases g3
        refine ⟨_, .inr ⟨_, kk, bk, .inl (by rw [upd_ne nab]; exact g3), rfl, by rw [upd_ne (ne_of_none hbk hb)]; exact hbk, rfl⟩, ?_⟩
        rw [adr_val]
        exact fin _ q2
      · rename_i kvs ek
        obtain ⟨kk, hk, q2⟩ := q2
        obtain ⟨c, g2, nf, g3⟩ := R2.ce.2 _ _ ek
        rw [g1] at g2; cases g2
        have ey := keyD_ok r2 hk
        have nab : a ≠ b := fun z => by rw [z, hb] at g3; cases g3
        refine ⟨_, .inl ⟨_, kk, .inl (by rw [upd_ne nab]; exact g3), ey, rfl⟩, ?_⟩
        rw [adr_val]
        exact fin _ q2
      · exact q2.elim
    · exact q2.elim
/-! ### such a dict is frozen with its lists -/
def Owns : LS → List Addr → List (List D) → LS → Prop
  | l, [], [], l' => l' = l
  | l, b :: bs, xs :: xss, l' => ∃ m, l[m]? = some (.own b xs) ∧ Owns (l.set m (.frz xs)) bs xss l'
  | _, _, _, _ => False
def kIceC (Q : P → LS → Prop) (x : P) (l : LS) : Prop := match x with
  | .loc n => match l[n]? with
    | some (.dtc kvs) => ∃ xss l1, Owns l (kvs.map (·.2)) xss l1 ∧ Q (.d (.dt (kvs.map (·.1)) (xss.map .lst))) (l1.set n (.fz (.dt (kvs.map (·.1)) (xss.map .lst))))
    | some (.dkc kvs) => ∃ xss l1, Owns l (kvs.map (·.2)) xss l1 ∧ Q (.d (.dk (kvs.map (·.1)) (xss.map .lst))) (l1.set n (.fz (.dk (kvs.map (·.1)) (xss.map .lst))))
    | _ => False
  | _ => False
def wIceC (we : WE) (σ : SS) (l : LS) (Q : P → LS → Prop) (E : EK) : Prop := we σ l (kIceC Q) E
theorem owns_ok {K : PySem.W.Frag} : ∀ (bs : List Addr) (xss : List (List D)) {p : Pt} {l l' : LS}, WF p → Cells K p l → Owns l bs xss l' → ∃ q : Pt, q.H = p.H ∧ q.rho = p.rho ∧ Ext p q ∧ WF q ∧ Cells K q l' ∧ (∀ b, q.F b → p.F b ∨ b ∈ bs) ∧ RDs K q (xss.map .lst) (bs.map V.ref)
  | [], [], p, l, l', w, ce, h => by
    cases h
    exact ⟨p, rfl, rfl, Ext.refl _, w, ce, fun b h => .inl h, .nil⟩
  | [], _ :: _, _, _, _, _, _, h => h.elim
  | _ :: _, [], _, _, _, _, _, h => h.elim
  | b :: bs, xs :: xss, p, l, l', w, ce, ⟨m, hm, h⟩ => by
    obtain ⟨c, h1, rfl, nf, vs, h3, h4⟩ := ce.2 _ _ hm
    have hr := List.mem_of_getElem? h1
    have la : LstAt (p.ice c) c vs := ⟨.inr rfl, h3⟩
    have c1 := Cells.iceL w ce h1 hm la (h4.mono (ext_ice hr).hf)
    obtain ⟨q, hH, hrh, e, wq, cq, hF, rq⟩ := owns_ok bs xss (wf_ice w hr) c1 h
    refine ⟨q, hH, hrh, (ext_ice hr).trans e, wq, cq, fun b' hb => ?_, .cons (RD.lst (la.mono e.hf) (h4.mono ((ext_ice hr).trans e).hf)) rq⟩
    rcases hF b' hb with z | z
    · rcases z with z | z
      · exact .inl z
      · exact .inr (by rw [z]; exact List.mem_cons_self)
    · exact .inr (List.mem_cons_of_mem _ z)
theorem owns_other : ∀ (bs : List Addr) (xss : List (List D)) {l l' : LS} {n : Nat} {c : Cell}, Owns l bs xss l' → l[n]? = some c → (∀ b xs, c ≠ .own b xs) → l'[n]? = some c
  | [], [], l, l', n, c, h, hc, _ => by cases h; exact hc
  | [], _ :: _, _, _, _, _, h, _, _ => h.elim
  | _ :: _, [], _, _, _, _, h, _, _ => h.elim
  | b :: bs, xs :: xss, l, l', n, c, ⟨m, hm, h⟩, hc, hn => by
    refine owns_other bs xss h ?_ hn
    rw [List.getElem?_set_ne fun z => by subst z; rw [hm] at hc; injection hc with hc; exact hn _ _ hc.symm]
    exact hc
theorem owns_len : ∀ (bs : List Addr) (xss : List (List D)) {l l' : LS}, Owns l bs xss l' → bs.length = xss.length
  | [], [], _, _, _ => rfl
  | [], _ :: _, _, _, h => h.elim
  | _ :: _, [], _, _, h => h.elim
  | b :: bs, xs :: xss, _, _, ⟨_, _, h⟩ => by simp [owns_len bs xss h]
theorem owns_mem {K : PySem.W.Frag} {p : Pt} : ∀ (bs : List Addr) (xss : List (List D)) {l l' : LS}, Cells K p l → Owns l bs xss l' → ∀ b ∈ bs, ∃ vs, p.H b = some (.lst vs)
  | [], _, _, _, _, _, b, hb => by simp at hb
  | _ :: _, [], _, _, _, h, _, _ => h.elim
  | b0 :: bs, xs :: xss, l, l', ce, ⟨m, hm, h⟩, b, hb => by
    obtain ⟨c, h1, rfl, nf, vs, h3, h4⟩ := ce.2 _ _ hm
    rcases List.mem_cons.mp hb with rfl | hb
    · exact ⟨vs, h3⟩
    · have : ∀ (bs : List Addr) (xss : List (List D)) {l l' : LS}, (∀ (i : Nat) (b : Addr) (xs : List D), l[i]? = some (Cell.own b xs) → ∃ vs, p.H b = some (.lst vs)) → Owns l bs xss l' → ∀ b ∈ bs, ∃ vs, p.H b = some (.lst vs) := by
        intro bs
        induction bs with
        | nil => intro _ _ _ _ _ b hb; simp at hb
        | cons b1 bs ih =>
          intro xss l l' hl ho b hb
          cases xss with
          | nil => exact ho.elim
          | cons xs xss =>
            obtain ⟨m, hm, ho⟩ := ho
            rcases List.mem_cons.mp hb with rfl | hb
            · exact hl _ _ _ hm
            · refine ih xss (fun i b xs hi => ?_) ho b hb
              by_cases z : m = i
              · subst z
                by_cases hlt : m < l.length
                · rw [List.getElem?_set_self hlt] at hi; cases hi
                · rw [List.getElem?_eq_none (by simpa using hlt)] at hi; cases hi
              · rw [List.getElem?_set_ne z] at hi
                exact hl i b xs hi
      refine this bs xss (fun i b xs hi => ?_) h b hb
      by_cases z : m = i
      · subst z
        by_cases hlt : m < l.length
        · rw [List.getElem?_set_self hlt] at hi; cases hi
        · rw [List.getElem?_eq_none (by simpa using hlt)] at hi; cases hi
      · rw [List.getElem?_set_ne z] at hi
        obtain ⟨_, _, rfl, _, vs, g, _⟩ := ce.2 _ _ hi
        exact ⟨vs, g⟩
theorem zip_refs {κ : Type} (kvs : List (κ × Addr)) : kvs.map (fun q => (q.1, V.ref q.2)) = (kvs.map (·.1)).zip ((kvs.map (·.2)).map V.ref) := by
  induction kvs with
  | nil => rfl
  | cons q r ih => simp [ih]
theorem qe_iceC {e : Expr} {we : WE} (h : QE X W e we) : QE X W e (wIceC we) := PE.imp (pe_iceP h) fun σ H Q ⟨p, σd, l, Qd, Ed, hH, R, hw, k, lk⟩ => by
  subst hH
  refine cE_ok R hw lk fun x l1 v p1 e1 R1 r1 q1 => ?_
  cases x with
  | d x => exact q1.elim
  | exc _ _ _ _ => exact q1.elim
  | loc n =>
    obtain ⟨a, h1, rfl⟩ := r1
    unfold kIceC at q1
    dsimp only at q1
    split at q1
    · rename_i kvs e
      obtain ⟨b, h2, nf, h3⟩ := R1.ce.2 n _ e
      rw [h1] at h2
      cases h2
      obtain ⟨xss, l2, ho, q⟩ := q1
      obtain ⟨q0, hH, hrh, e2, w2, c2, hF, rq⟩ := owns_ok _ _ R1.wf R1.ce ho
      have hm := owns_mem _ _ R1.ce ho
      have h3' : q0.H a = some (.dT (kvs.map fun q => (q.1, V.ref q.2))) := by rw [hH]; exact h3
      have nf' : ¬ q0.F a := fun z => by
        rcases hF a z with z | z
        · exact nf z
        · obtain ⟨vs, g⟩ := hm a z
          rw [h3] at g; cases g
      have ht : ∀ vs, q0.H a ≠ some (.tup vs) := fun _ z => by rw [h3'] at z; cases z
      have h1' : q0.rho[n]? = some a := by rw [hrh]; exact h1
      have hr := List.mem_of_getElem? h1'
      have e' := owns_other _ _ ho e (fun _ _ z => nomatch z)
      refine .inr ⟨a, _, rfl, h3, True.intro, fun od => ?_⟩
      rw [← hH]
      have rx : RD X.K (q0.lck a (.frz od (.dT (kvs.map fun q => (q.1, V.ref q.2))))) (.dt (kvs.map (·.1)) (xss.map .lst)) (.ref a) := RD.dt (ob := od) (vs := (kvs.map (·.2)).map V.ref) (.inr rfl) (by show upd _ _ _ _ = _; rw [upd_same, zip_refs]) (by rw [List.length_map, List.length_map, ← owns_len _ _ ho, List.length_map]) (rq.mono (ext_lck hr nf' ht).hf)
      exact k _ _ _ (q0.lck a _) (e1.trans (e2.trans (ext_lck hr nf' ht))) (R1.ext (e2.trans (ext_lck hr nf' ht)) (wf_lck w2) (Cells.lck (c := .fz _) w2 c2 h1' e' nf' ht (show CellOk X.K _ (.fz _) a from rx))) (show RP X.K _ (.d _) _ from rx) q
    · rename_i kvs e
      obtain ⟨b, h2, nf, h3⟩ := R1.ce.2 n _ e
      rw [h1] at h2
      cases h2
      obtain ⟨xss, l2, ho, q⟩ := q1
      obtain ⟨q0, hH, hrh, e2, w2, c2, hF, rq⟩ := owns_ok _ _ R1.wf R1.ce ho
      have hm := owns_mem _ _ R1.ce ho
      have h3' : q0.H a = some (.dK (kvs.map fun q => (q.1, V.ref q.2))) := by rw [hH]; exact h3
      have nf' : ¬ q0.F a := fun z => by
        rcases hF a z with z | z
        · exact nf z
        · obtain ⟨vs, g⟩ := hm a z
          rw [h3] at g; cases g
      have ht : ∀ vs, q0.H a ≠ some (.tup vs) := fun _ z => by rw [h3'] at z; cases z
      have h1' : q0.rho[n]? = some a := by rw [hrh]; exact h1
      have hr := List.mem_of_getElem? h1'
      have e' := owns_other _ _ ho e (fun _ _ z => nomatch z)
      refine .inr ⟨a, _, rfl, h3, True.intro, fun od => ?_⟩
      rw [← hH]
      have rx : RD X.K (q0.lck a (.frz od (.dK (kvs.map fun q => (q.1, V.ref q.2))))) (.dk (kvs.map (·.1)) (xss.map .lst)) (.ref a) := RD.dk (ob := od) (vs := (kvs.map (·.2)).map V.ref) (.inr rfl) (by show upd _ _ _ _ = _; rw [upd_same, zip_refs]) (by rw [List.length_map, List.length_map, ← owns_len _ _ ho, List.length_map]) (rq.mono (ext_lck hr nf' ht).hf)
      exact k _ _ _ (q0.lck a _) (e1.trans (e2.trans (ext_lck hr nf' ht))) (R1.ext (e2.trans (ext_lck hr nf' ht)) (wf_lck w2) (Cells.lck (c := .fz _) w2 c2 h1' e' nf' ht (show CellOk X.K _ (.fz _) a from rx))) (show RP X.K _ (.d _) _ from rx) q
    · exact q1.elim
/-! ### dict(d): a new dict, keys ints or texts -/
def bDict (xs : List P) (l : LS) (Q : P → LS → Prop) : Prop := match xs with
  | [x] => match dkOf l x with
    | some kvs => Q (.loc l.length) (l ++ [.dk kvs])
    | none => False
  | _ => False
theorem ref_dict {K : PySem.W.Frag} : RefCall K (fun xs H Q => ∃ (a : Addr) (kvs : List (Key × V)), xs = [.ref a] ∧ Rd H a (.dK kvs) ∧ ∀ p, H p = none → Q (.ref p) (upd H p (.dK kvs))) bDict := fun p l xs vs Qd Q w ce rx h k => by
  unfold bDict at h
  split at h
  · obtain ⟨v, rfl, r⟩ := rx.one
    split at h
    · rename_i kvs hy
      obtain ⟨a, us, rfl, h1, h2⟩ := dkOf_ok ce r hy
      refine ⟨a, _, rfl, h1, fun b hb => ?_⟩
      exact k (.loc l.length) _ (.ref b) (p.new b (.dK (zipV kvs us))) (ext_new hb) (wf_new w hb) (Cells.new w ce hb (show CellOk K (p.new b (.dK (zipV kvs us))) (.dk kvs) b from ⟨fun z => w.nF hb z, us, upd_same, h2.mono (ext_new hb).hf⟩)) ⟨b, by
        show (p.rho ++ [b])[l.length]? = some b
        rw [ce.1, List.getElem?_append_right (Nat.le_refl _)]
        simp, rfl⟩ h
    · exact h.elim
  · exact h.elim
end
end QL
set_option Elab.async false
set_option linter.all false
set_option maxRecDepth 100000
set_option maxHeartbeats 4000000
/-! QO1: instances of own classes: fields read and stored, a new one; defs with defaults; methods. -/
namespace L2
open PySem PySem.Spec PyProof.Rows
section
variable {X : Cx} {CX : CXT} {k : Nat} {f C : Addr} {fd : FuncData} {ps : List Str} {sp : Sp} {dvs : List V} {ds : List Value} {E : St → XK} {x : Str} {p pos : Pos} {e : Expr} {es : List Expr} {t : TA}
def tMakeS (C : Addr) (sp : Sp) (E : St → XK) (t : TA) : TE := fun σ H Q => t σ H fun vs H1 => ∀ x dx, H1 x = none → H1 dx = none → dx ≠ x →
  sp (.ref x :: vs) (upd (upd H1 dx (.own x)) x (.ins C dx [])) (fun v H2 => v = .non ∧ Q (.ref x) H2) (E σ)
theorem run_makeS {pins : List (Addr × Obj)} {σ : St} {H : Hp} {s : Shared} {Q : VK} {us : List Value} {vs : List V} (M : Mk X.K C f) (F : FnOk X.prog X.w X.K X.mg X.base CX k f fd ps sp) (hr : Room (k + 1) X.A) (hb : Binds X.K fd ps [])
    (hx : PassesAt CX X σ (E σ)) (I : Inv X pins σ H s) (r : Vals vs us)
    (h : ∀ x dx, H x = none → H dx = none → dx ≠ x → sp (.ref x :: vs) (upd (upd H dx (.own x)) x (.ins C dx [])) (fun v H2 => v = .non ∧ Q (.ref x) H2) (E σ)) :
    wpAny (model X.prog X.w) X.A (call (.ref C) us) (EP X pins σ Q) X.xe s := by
  have hq := h (s.heap.objs.size + 1) s.heap.objs.size (I.hok.fresh (Nat.le_succ _)) (I.hok.fresh (Nat.le_refl _)) (Nat.ne_of_lt (Nat.lt_succ_self _))
  have I2 := Inv.made (C := C) I
  have r2 : Vals (V.ref (s.heap.objs.size + 1) :: vs) (Value.ref (s.heap.objs.size + 1) :: us) := .cons rfl r
  have hl : (Value.ref (s.heap.objs.size + 1) :: us ++ []).length = ps.length := by
    have e := r2.length
    rw [F.len _ _ _ _ hq] at e
    rw [List.append_nil]
    exact e.symm
  have hb2 := hb _ (Value.ref (s.heap.objs.size + 1) :: us) I2.kIn hl
  rw [List.append_nil] at hb2
  refine wpAny_call (make_map (f := f) I.kIn M.makes M.init (beq_iff_eq.mp M.fn) (codeAny_mono (F.run _ X.stack _ _ ⟨Value.ref (s.heap.objs.size + 1) :: us, []⟩ (Value.ref (s.heap.objs.size + 1) :: us) _ _ (E σ) (hr.make C us [])
    (I2.env0.make C us []) hb2 r2 hq) fun r s' hq' => ?_))
  cases r with
  | error e => exact hx pins _ _ e s' I2 hq'
  | ok fl =>
    cases fl with
    | ret u =>
      obtain ⟨v, H', I3, rv, ev, q3⟩ := I2.after hq'
      subst ev
      exact ⟨rv, ⟨V.ref (s.heap.objs.size + 1), H', I3, rfl, q3⟩⟩
    | next => exact False.elim hq'
    | brk => exact False.elim hq'
    | cont => exact False.elim hq'
theorem pe_makeS (M : Mk X.K C f) (F : FnOk X.prog X.w X.K X.mg X.base CX k f fd ps sp) (hr : Room (k + 1) X.A) (hg : Gl X x) (hm : X.mg x = some (.ref C)) (hb : Binds X.K fd ps []) (hx : ∀ σ, PassesAt CX X σ (E σ))
    (ha : PA X (e :: es) t) (hdb : (x == ("__debug__" : Str)) = false := by decide) (he : starEach (e :: es) X.env = (false, eval e X.env) :: starEach es X.env := by rfl) (hpl : (backTo pos (starEach es X.env)).any (·.1) = false := by rfl) :
    PE X (.Call (.Name x p) (e :: es) [] pos) (tMakeS C sp E t) := by
  refine ⟨fun pins s σ H Q I h => ?_⟩
  refine wpAny_Call_Name_kw (ld_glob I hg hm ?_ hdb)
  refine PySem.W.callWith_K (h₀ := X.base) I.ok.mod.kin M.kp (thn (ha.run pos pins s σ H _ I h) fun us s1 ⟨vs, H1, I1, r, q⟩ => ⟨I1.kIn, ?_⟩) he hpl
  exact run_makeS M F hr hb (hx σ) I1 r q
/-- a target o.f -/
def gAtt (K : PySem.W.Frag) (to : TE) (f : Str) : TG := fun v σ H Q => to σ H fun x H1 => ∃ a C dx fs, x = .ref a ∧ H1 a = some (.ins C dx fs) ∧ Cls K C ∧ NoAttr K C f ∧ fs.length < 1000 ∧ Q σ (upd H1 a (.ins C dx (putF f v fs)))
theorem pg_att {o : Expr} {to : TE} {f : Str} (ho : PE X o to) : PG X (.Attribute o f pos) (gAtt X.K to f) := by
  refine ⟨fun pins s σ H v u Q I r h => ?_⟩
  rw [PySem.assign_Attribute]
  refine wpAny_bind (wpAny_holding (thn (ho.run pins s σ H _ I h) fun ov s1 ⟨x, H1, I1, r1, a, C, dx, fs, ex, ea, c, n, l, q⟩ => ?_))
  subst ex
  obtain rfl : ov = Value.ref a := r1
  refine wpAny_bind (wpAny_standAt (wpAny_bind (wpAny_holding (setattr_ok I1 ea c n l r fun s3 I3 => ?_))))
  exact wpAny_release ⟨σ, _, I3, q⟩
end
end L2
namespace QL
open PySem L2
section
variable {X : Cx} {W : WX} {o e : Expr} {es : List Expr} {wo we : WE} {ws : WA} {pos q : Pos} {x f : Str}
/-- what of the text a class with the name x must have; its fields -/
structure ClsQ (K : PySem.W.Frag) (x : Str) (ns : List Str) : Prop where
  cls : Cls K (clsA K x)
  no : ∀ f ∈ ns, NoAttr K (clsA K x) f
/-- e.f, e an instance that does not change any more -/
def kFld (x f : Str) (K : PySem.W.Frag) (Q : P → LS → Prop) (v : P) (l : LS) : Prop := match v with
  | .d (.obj C ns xs) => C = clsA K x ∧ ∃ y, (ns.zip xs).lookup f = some y ∧ Q (.d y) l
  | _ => False
def wFld (K : PySem.W.Frag) (x f : Str) (we : WE) (σ : SS) (l : LS) (Q : P → LS → Prop) (E : EK) : Prop := we σ l (kFld x f K Q) E
theorem qe_fld {ns : List Str} (c : ClsQ X.K x ns) (hf : f ∈ ns) (he : QE X W e we) (hb : attributeBase e f X.env (eval e X.env) = eval e X.env := by rfl) : QE X W (.Attribute e f pos) (wFld X.K x f we) := PE.imp (pe_fld he hb) fun σ H Q ⟨p, σd, l, Qd, Ed, hH, R, hw, k, lk⟩ => by
  subst hH
  refine cE_ok R hw lk fun v l1 u p1 e1 R1 r1 q1 => ?_
  unfold kFld at q1
  split at q1
  · rename_i C ns' xs
    obtain ⟨rfl, y, hy, qq⟩ := q1
    cases r1 with
    | @obj a _ dx _ _ vs hF h1 h2 =>
      obtain ⟨w, hw, rw'⟩ := rds_look h2 hy
      exact ⟨a, _, dx, _, w, rfl, h1, c.cls, c.no f hf, hw, k (.d y) l1 w p1 e1 R1 rw' qq⟩
  · exact q1.elim
/-- o.f = .. , o an instance that is being made -/
def putN (f : Str) (y : D) : List Str → List D → List Str × List D
  | [], _ => ([f], [y])
  | g :: ns, [] => (g :: ns, [])
  | g :: ns, x :: xs => if g = f then (g :: ns, y :: xs) else ((g :: (putN f y ns xs).1), x :: (putN f y ns xs).2)
theorem putN_ok {K : PySem.W.Frag} {p : Pt} {f : Str} {y : D} {v : V} (r : RD K p y v) : ∀ {ns : List Str} {xs : List D} {vs : List V}, ns.length = xs.length → RDs K p xs vs → ∃ us, putF f v (ns.zip vs) = (putN f y ns xs).1.zip us ∧ (putN f y ns xs).1.length = (putN f y ns xs).2.length ∧ RDs K p (putN f y ns xs).2 us
  | [], [], _, _, .nil => ⟨[v], rfl, rfl, .cons r .nil⟩
  | g :: ns, x :: xs, _, hl, .cons (v := w) (vs := ws) h t => by
    unfold putN
    show ∃ us, (if g = f then (g, v) :: ns.zip ws else (g, w) :: putF f v (ns.zip ws)) = _ ∧ _
    by_cases hg : g = f
    · rw [if_pos hg, if_pos hg]
      exact ⟨v :: ws, rfl, hl, .cons r t⟩
    · rw [if_neg hg, if_neg hg]
      obtain ⟨us, e1, e2, e3⟩ := putN_ok r (ns := ns) (xs := xs) (by simpa using hl) t
      exact ⟨w :: us, by rw [e1]; rfl, by simpa using e2, .cons h e3⟩
  | [], _ :: _, _, hl, _ => by simp at hl
  | _ :: _, [], _, hl, _ => by simp at hl
def kAtt (K : PySem.W.Frag) (x f : Str) (d : P) (σ : SS) (Q : SS → LS → Prop) (v : P) (l : LS) : Prop := match d, v with
  | .d y, .loc n => match l[n]? with
    | some (.ins C ns xs) => C = clsA K x ∧ ns.length < 1000 ∧ Q σ (l.set n (.ins C (putN f y ns xs).1 (putN f y ns xs).2))
    | _ => False
  | _, _ => False
def gAttD (K : PySem.W.Frag) (x f : Str) (wo : WE) (d : P) (σ : SS) (l : LS) (Q : SS → LS → Prop) : Prop := wo σ l (kAtt K x f d σ Q) noEx
theorem qg_att {ns : List Str} (c : ClsQ X.K x ns) (hf : f ∈ ns) (ho : QE X W o wo) : QG X (.Attribute o f pos) (gAttD X.K x f wo) := PG.imp (pg_att ho) fun v σ H Q ⟨p, σd, l, d, Qd, hH, R, r, hw, k⟩ => by
  subst hH
  refine cE_ok R hw LinkE.never fun x1 l1 vx p1 e1 R1 r1 q1 => ?_
  unfold kAtt at q1
  split at q1
  · rename_i y n
    obtain ⟨a, h1, rfl⟩ := r1
    split at q1
    · rename_i C ns' xs ek
      obtain ⟨rfl, hl, qq⟩ := q1
      obtain ⟨b, h2, nf, dx, vs, h3, hlen, h4⟩ := R1.ce.2 _ _ ek
      rw [h1] at h2; cases h2
      have hr := List.mem_of_getElem? h1
      have ht : ∀ vs, p1.H a ≠ some (.tup vs) := fun _ z => by rw [h3] at z; cases z
      obtain ⟨us, g1, g2, g3⟩ := putN_ok (f := f) (RD.mono e1.hf r) hlen h4
      refine ⟨a, _, dx, _, rfl, h3, c.cls, c.no f hf, by rw [List.length_zip]; omega, ?_⟩
      rw [g1]
      have e2 := ext_put (o := .ins (clsA X.K x) dx ((putN f y ns' xs).1.zip us)) hr nf ht
      exact k _ σ σd _ (e1.trans e2) (R1.ext e2 (wf_put R1.wf) (Cells.put (c := .ins _ _ _) R1.wf R1.ce h1 nf ht ⟨nf, dx, us, upd_same, g2, g3.mono e2.hf⟩)) qq
    · exact q1.elim
  · exact q1.elim
/-- a class as it may be made by its name -/
def MakQ (P : Program) (w : World) (K : PySem.W.Frag) (mg : Str → Option Value) (base : Heap) (k : Nat) (x : Str) (n : Nat) (fs : FS) : Prop :=
  ∃ f fd ps, Mk K (clsA K x) f ∧ FnOk P w K mg base (L2N.CX P w) k f fd ps (spQ K (n + 1) fs) ∧ mg x = some (.ref (clsA K x)) ∧ Binds K fd ps []
def allD : List P → Bool
  | [] => true
  | .d _ :: r => allD r
  | _ :: _ => false
def kMk2 (n : Nat) (Q : P → LS → Prop) (_ : P) (l : LS) : Prop := match l[n]? with
  | some (.ins C ns xs) => Q (.d (.obj C ns xs)) (l.set n (.fz (.obj C ns xs)))
  | _ => False
def kMk (K : PySem.W.Frag) (x : Str) (n : Nat) (fs : FS) (Q : P → LS → Prop) (E : EK) (vs : List P) (l : LS) : Prop := vs.length = n ∧ allD vs = true ∧ fs (.loc 0 :: vs) [.ins (clsA K x) [] []] (fun r cs => r = .d .non ∧ ∃ C ns xs, cs[0]? = some (.ins C ns xs) ∧ Q (.d (.obj C ns xs)) l) (fun ex _ => E ex l)
def wMk (K : PySem.W.Frag) (x : Str) (n : Nat) (fs : FS) (ws : WA) (σ : SS) (l : LS) (Q : P → LS → Prop) (E : EK) : Prop := ws σ l (kMk K x n fs Q E) E
theorem allD_relab : ∀ (vs : List P) (i : Nat), allD vs = true → relab vs i = vs ∧ locsOf vs = []
  | [], _, _ => ⟨rfl, rfl⟩
  | .d x :: r, i, h => by
    have ih := allD_relab r i h
    exact ⟨by show .d x :: relab r i = _; rw [ih.1], ih.2⟩
  | .loc _ :: _, _, h => by cases h
  | .exc _ _ _ _ :: _, _, h => by cases h
end
end QL
set_option Elab.async false
set_option linter.all false
set_option maxRecDepth 100000
set_option maxHeartbeats 4000000
/-! QO2: a new instance; methods; defs with defaults. -/
namespace QL
open PySem L2
section
variable {K : PySem.W.Frag}
theorem allD_mono {p p' : Pt} (e : HF p p') : ∀ {vs : List P} {us : List V}, allD vs = true → RPs K p vs us → RPs K p' vs us
  | [], _, _, .nil => .nil
  | .d x :: r, _, h, .cons q t => .cons (show RP K p' (.d x) _ from RD.mono e q) (allD_mono e h t)
  | .loc _ :: _, _, h, _ => by cases h
  | .exc _ _ _ _ :: _, _, h, _ => by cases h
theorem make_ok {x : Str} {n : Nat} {fs : FS} {vs : List P} {us : List V} {p : Pt} {l : LS} {Qd : P → LS → Prop} {Ed : EK} {Q : VK} {E : XK} {a dx : Addr} (w : WF p) (ce : Cells K p l) (r : RPs K p vs us) (h : kMk K x n fs Qd Ed vs l) (ha : p.H a = none) (hd : p.H dx = none) (ne : dx ≠ a)
    (k : After K p Qd Q) (kx : ∀ ex l' cls dd p', Ext p p' → WF p' → Cells K p' l' → XR K p' ex cls dd → Ed ex l' → E cls dd p'.H) :
    spQ K (n + 1) fs (.ref a :: us) (upd (upd p.H dx (.own a)) a (.ins (clsA K x) dx [])) (fun v H2 => v = .non ∧ Q (.ref a) H2) E := by
  obtain ⟨hn, hall, h⟩ := h
  have up : ∀ b o, p.H b = some o → upd (upd p.H dx (.own a)) a (.ins (clsA K x) dx []) b = some o := fun b o z => by
    rw [upd_ne (ne_of_none z ha), upd_ne (ne_of_none z hd)]; exact z
  have hfc : HF p ⟨upd (upd p.H dx (.own a)) a (.ins (clsA K x) dx []), [a], p.F⟩ := ⟨fun _ z => z, fun b o z _ => up b o z, fun b o z => up b _ z⟩
  refine ⟨⟨upd (upd p.H dx (.own a)) a (.ins (clsA K x) dx []), [a], p.F⟩, .loc 0 :: vs, [.ins (clsA K x) [] []], _, _, rfl, ⟨by simp, fun b m => ?_, fun b m => ?_⟩, ⟨rfl, fun i c e => ?_⟩, .cons ⟨a, rfl, rfl⟩ (allD_mono hfc hall r), by simp [hn], h, fun d l' v p' e w' c' rr q => ?_, fun ex l' cls dd p' e w' c' xr q => ?_⟩
  · simp at m
    subst m
    exact ⟨_, upd_same⟩
  · obtain ⟨o, z⟩ := w.fs b m
    exact ⟨o, up b o z⟩
  · cases i with
    | zero =>
      simp at e
      subst e
      exact ⟨a, rfl, fun z => w.nF ha z, dx, [], upd_same, rfl, .nil⟩
    | succ i => simp at e
  all_goals
    have keepR : ∀ b o, p.H b = some o → b ≠ a → p'.H b = some o := fun b o z nb => e.keep b o (up b o z) (by simpa using nb)
    have back : ∀ b, upd (upd p.H dx (.own a)) a (.ins (clsA K x) dx []) b = none → p.H b = none := fun b z => by
      cases q0 : p.H b with
      | none => rfl
      | some o => rw [up b o q0] at z; cases z
  · obtain ⟨rfl, C, ns, xs, hc, q⟩ := q
    cases rr
    refine ⟨rfl, ?_⟩
    obtain ⟨b, h1, h2⟩ := c'.2 _ _ hc
    obtain ⟨t, ht⟩ := e.pre
    have hb : b = a := by rw [ht] at h1; simpa using h1.symm
    subst hb
    obtain ⟨nf, dx2, ws, h3, hlen, h4⟩ := h2
    have E3 : Ext p ⟨p'.H, p.rho, fun c => p'.F c ∨ c = b⟩ := by
      refine ⟨⟨[], by simp⟩, fun _ z => .inl z, fun c z => .inl (e.fm c z), fun c z => ?_, fun c o z _ => keepR c o z (ne_of_none z ha), fun c o z _ => keepR c o z (ne_of_none z ha), fun c o z => ⟨o, keepR c o z (ne_of_none z ha)⟩, fun c o z => keepR c _ z (ne_of_none z ha)⟩
      rcases z with z | z
      · rcases e.fn c z with z | z | z
        · exact .inl z
        · exact .inr (.inl (back c z))
        · simp at z; exact .inr (.inl (by rw [z]; exact ha))
      · exact .inr (.inl (by rw [z]; exact ha))
    have W3 : WF ⟨p'.H, p.rho, fun c => p'.F c ∨ c = b⟩ := by
      refine ⟨w.nd, fun c m => ?_, fun c m => ?_⟩
      · obtain ⟨o, z⟩ := w.hs c m
        exact ⟨o, keepR c o z (ne_of_none z ha)⟩
      · rcases m with m | m
        · exact w'.fs c m
        · exact ⟨_, by rw [m]; exact h3⟩
    have C3 : Cells K ⟨p'.H, p.rho, fun c => p'.F c ∨ c = b⟩ l := by
      refine ⟨ce.1, fun i c hi => ?_⟩
      obtain ⟨g, g1, g2⟩ := ce.2 i c hi
      obtain ⟨o, z⟩ := w.hs g (List.mem_of_getElem? g1)
      refine ⟨g, g1, g2.mono E3 ((keepR g o z (ne_of_none z ha)).trans z.symm) fun y => ?_⟩
      rcases y with y | y
      · rcases e.fn g y with y | y | y
        · exact y
        · rw [back g y] at z; cases z
        · simp at y; rw [y, ha] at z; cases z
      · rw [y, ha] at z; cases z
    exact k (.d (.obj C ns xs)) l (.ref b) ⟨p'.H, p.rho, fun c => p'.F c ∨ c = b⟩ E3 W3 C3 (show RP K ⟨p'.H, p.rho, fun c => p'.F c ∨ c = b⟩ (.d (.obj C ns xs)) (.ref b) from RD.obj (.inr rfl) h3 (RDs.mono (p := p') (p' := ⟨p'.H, p.rho, fun c => p'.F c ∨ c = b⟩) ⟨fun _ z => Or.inl z, fun _ _ z _ => z, fun _ _ z => z⟩ h4)) q
  · have E3 : Ext p ⟨p'.H, p.rho, p'.F⟩ := by
      refine ⟨⟨[], by simp⟩, fun _ z => .inl z, e.fm, fun c z => ?_, fun c o z _ => keepR c o z (ne_of_none z ha), fun c o z _ => keepR c o z (ne_of_none z ha), fun c o z => ⟨o, keepR c o z (ne_of_none z ha)⟩, fun c o z => keepR c _ z (ne_of_none z ha)⟩
      rcases e.fn c z with z | z | z
      · exact .inl z
      · exact .inr (.inl (back c z))
      · simp at z; exact .inr (.inl (by rw [z]; exact ha))
    have W3 : WF ⟨p'.H, p.rho, p'.F⟩ := ⟨w.nd, fun c m => by
      obtain ⟨o, z⟩ := w.hs c m
      exact ⟨o, keepR c o z (ne_of_none z ha)⟩, w'.fs⟩
    have C3 : Cells K ⟨p'.H, p.rho, p'.F⟩ l := by
      refine ⟨ce.1, fun i c hi => ?_⟩
      obtain ⟨g, g1, g2⟩ := ce.2 i c hi
      obtain ⟨o, z⟩ := w.hs g (List.mem_of_getElem? g1)
      refine ⟨g, g1, g2.mono E3 ((keepR g o z (ne_of_none z ha)).trans z.symm) fun y => ?_⟩
      rcases e.fn g y with y | y | y
      · exact y
      · rw [back g y] at z; cases z
      · simp at y; rw [y, ha] at z; cases z
    exact kx ex l cls dd ⟨p'.H, p.rho, p'.F⟩ E3 W3 C3 (XR.mono (p := p') (p' := ⟨p'.H, p.rho, p'.F⟩) ⟨fun _ z => z, fun _ _ z _ => z, fun _ _ z => z⟩ xr) q
end
section
variable {X : Cx} {W : WX} {o e : Expr} {es : List Expr} {wo we : WE} {ws : WA} {pos q apos : Pos} {x m : Str} {fs : FS} {k j n : Nat}
theorem qe_make (c : MakQ X.prog X.w X.K X.mg X.base k x n fs) (hr : Room j X.A) (hk : k + 1 ≤ j) (tk : L2N.Takes X W) (hg : Gl X x) (ha : QA X W (e :: es) ws)
    (hdb : (x == ("__debug__" : Str)) = false := by decide) (he : starEach (e :: es) X.env = (false, eval e X.env) :: starEach es X.env := by rfl) (hpl : (backTo pos (starEach es X.env)).any (·.1) = false := by rfl) :
    QE X W (.Call (.Name x q) (e :: es) [] pos) (wMk X.K x n fs ws) := by
  obtain ⟨f, fd, ps, M, F, hm, hb⟩ := c
  refine PE.imp (pe_makeS (E := fun σ => L2.WE W σ) M F (hr.mono hk) hg hm hb (fun σ => L2N.passAt tk σ) ha hdb he hpl) fun σ H Q ⟨p, σd, l, Qd, Ed, hH, R, hw, kk, lk⟩ => ?_
  subst hH
  refine cA_ok R hw lk fun vs l1 us p1 e1 R1 r1 q1 => fun a dx h1 h2 h3 => ?_
  exact make_ok R1.wf R1.ce r1 q1 h1 h2 h3 (fun d l' v p' e' w' c' r' q' => kk d l' v p' (e1.trans e') (R1.ext e' w' c') r' q') fun ex l' cls dd p' e' w' c' x q => lk ex l' cls dd p' (e1.trans e') (R1.ext e' w' c') x q
/-! ### o.m(), the method raises nothing -/
structure MetQ (P : Program) (w : World) (K : PySem.W.Frag) (mg : Str → Option Value) (base : Heap) (k : Nat) (x m : Str) (n : Nat) (fs : FS) : Prop where
  cls : Cls K (clsA K x)
  met : ∃ f fd ps, Meth K (clsA K x) m f ∧ FnOk P w K mg base (L2N.CX P w) k f fd ps (spQ K n fs) ∧ Binds K fd ps []
def isObj (K : PySem.W.Frag) (x m : Str) : P → Prop
  | .d (.obj C ns xs) => C = clsA K x ∧ (ns.zip xs).lookup m = none
  | _ => False
def kMt0 (K : PySem.W.Frag) (x m : Str) (fs : FS) (Q : P → LS → Prop) (v : P) (l : LS) : Prop := isObj K x m v ∧ callP fs [v] l Q noEx
def wMt0 (K : PySem.W.Frag) (x m : Str) (fs : FS) (wo : WE) (σ : SS) (l : LS) (Q : P → LS → Prop) (E : EK) : Prop := wo σ l (kMt0 K x m fs Q) E
theorem passes_no : Passes (L2N.CX X.prog X.w) X (fun _ _ _ => False) := fun _ _ _ _ _ _ _ h => by
  obtain ⟨_, _, _, _, _, h⟩ := h
  simp at h
theorem rds_none {p : Pt} {f : Str} : ∀ {ns : List Str} {xs : List D} {vs : List V}, RDs X.K p xs vs → (ns.zip xs).lookup f = none → (ns.zip vs).lookup f = none
  | [], _, _, _, _ => rfl
  | _ :: _, [], _, .nil, _ => rfl
  | n :: ns, x :: xs, _, .cons r t, h => by
    rw [List.zip_cons_cons, List.lookup_cons] at h ⊢
    by_cases e : f == n
    · rw [e] at h; cases h
    · rw [Bool.not_eq_true] at e
      rw [e] at h ⊢
      exact rds_none t h
theorem qe_meth0 {pl : Sem Bool} (c : MetQ X.prog X.w X.K X.mg X.base k x m 1 fs) (hr : Room j X.A) (hk : k ≤ j) (ho : QE X W o wo)
    (ht : eval (.Call (.Attribute o m apos) [] [] pos) X.env = (do
      let ov ← eval o X.env
      standAt apos.atName
      let (f, first) ← holding [ov] (getMethod ov m pl)
      callWith pos f first (backTo pos (starEach [] X.env)) (backToKw pos (keywordEach [] X.env))) := by rfl) : QE X W (.Call (.Attribute o m apos) [] [] pos) (wMt0 X.K x m fs wo) := by
  obtain ⟨cl, f, fd, ps, M, F, hb⟩ := c
  refine PE.imp (pe_meth0 (dvs := []) ho cl M F (hr.mono hk) hb .nil passes_no ht) fun σ H Q ⟨p, σd, l, Qd, Ed, hH, R, hw, kk, lk⟩ => ?_
  subst hH
  refine cE_ok R hw lk fun v l1 u p1 e1 R1 r1 ⟨hi, q1⟩ => ?_
  unfold isObj at hi
  split at hi
  · rename_i C ns xs
    obtain ⟨rfl, hl⟩ := hi
    have r1' := r1
    cases r1 with
    | @obj a _ dx _ _ vs hF h1 h2 =>
      refine ⟨a, dx, _, rfl, h1, rds_none h2 hl, ?_⟩
      show spQ X.K 1 fs [V.ref a] p1.H Q (fun _ _ _ => False)
      exact call_ok (n := 1) R1.wf R1.ce (.cons r1' .nil) rfl q1 (fun d l' v p' e' w' c' r' q' => kk d l' v p' (e1.trans e') (R1.ext e' w' c') r' q') fun ex l' cls dd p' e' w' c' x q => q.elim
  · exact hi.elim
/-! ### f(..) with defaults -/
def CalD (P : Program) (w : World) (K : PySem.W.Frag) (mg : Str → Option Value) (base : Heap) (k : Nat) (x : Str) (n : Nat) (dd : List D) (fs : FS) : Prop :=
  ∃ f fd ps ds dvs, FnOk P w K mg base (L2N.CX P w) k f fd ps (spQ K n fs) ∧ mg x = some (.ref f) ∧ PySem.W.keepIn K (.ref f) = true ∧ Binds K fd ps ds ∧ Vals dvs ds ∧ ∀ p, RDs K p dd dvs
def kCallD (n : Nat) (dd : List D) (fs : FS) (Q : P → LS → Prop) (E : EK) (vs : List P) (l : LS) : Prop := (vs ++ dd.map P.d).length = n ∧ callP fs (vs ++ dd.map P.d) l Q E
def wCallD (n : Nat) (dd : List D) (fs : FS) (ws : WA) (σ : SS) (l : LS) (Q : P → LS → Prop) (E : EK) : Prop := ws σ l (kCallD n dd fs Q E) E
theorem rps_app {p : Pt} {dd : List D} {dvs : List V} (h : RDs X.K p dd dvs) : ∀ {vs : List P} {us : List V}, RPs X.K p vs us → RPs X.K p (vs ++ dd.map P.d) (us ++ dvs)
  | [], _, .nil => by
    have : ∀ {dd : List D} {dvs : List V}, RDs X.K p dd dvs → RPs X.K p (dd.map P.d) dvs := by
      intro dd
      induction dd with
      | nil => intro _ h; cases h; exact .nil
      | cons d dd ih => intro _ h; cases h with | cons a b => exact .cons a (ih b)
    exact this h
  | v :: vs, _, .cons a b => .cons a (rps_app h b)
theorem qe_callD {dd : List D} (c : CalD X.prog X.w X.K X.mg X.base k x n dd fs) (hr : Room j X.A) (hk : k ≤ j) (tk : L2N.Takes X W) (hg : Gl X x) (ha : QA X W (e :: es) ws)
    (hdb : (x == ("__debug__" : Str)) = false := by decide) (he : starEach (e :: es) X.env = (false, eval e X.env) :: starEach es X.env := by rfl) (hpl : (backTo pos (starEach es X.env)).any (·.1) = false := by rfl) :
    QE X W (.Call (.Name x q) (e :: es) [] pos) (wCallD n dd fs ws) := by
  obtain ⟨f, fd, ps, ds, dvs, F, hm, hkp, hb, hv, hd⟩ := c
  refine PE.imp (pe_callSD (E := fun σ => L2.WE W σ) F (hr.mono hk) hg hm hkp hb hv (fun σ => L2N.passAt tk σ) ha hdb he hpl) fun σ H Q ⟨p, σd, l, Qd, Ed, hH, R, hw, kk, lk⟩ => ?_
  subst hH
  exact cA_ok R hw lk fun vs l1 us p1 e1 R1 r1 q1 => call_ok R1.wf R1.ce (rps_app (hd p1) r1) q1.1 q1.2 (fun d l' v p' e' w' c' r' q' => kk d l' v p' (e1.trans e') (R1.ext e' w' c') r' q') fun ex l' cls dd p' e' w' c' x q => lk ex l' cls dd p' (e1.trans e') (R1.ext e' w' c') x q
end
end QL
set_option Elab.async false
set_option linter.all false
set_option maxRecDepth 100000
set_option maxHeartbeats 4000000
/-! QC2: list comprehensions with two clauses. -/
namespace QL
open PySem L2
/-- the inner loop's element -/
def kEl2 (N : List D → LS → Prop) (acc : List D) (te : WE) (σ : SS) (b : Bool) (l : LS) : Prop := if b = true then te σ l (kEl N acc) noEx else N acc l
def kIn2 (tt1 : WT) (te : WE) (vs1 : List Nat) (σ2 : SS) (N : List D → LS → Prop) (acc : List D) (σ3 : SS) (l : LS) : Prop := wipeD σ3 vs1 = wipeD σ2 vs1 ∧ tt1 σ3 l (kEl2 N acc te σ3) noEx
/-- the inner loop, from what is made so far -/
def lcIn (I1 : Items) (g1 : WG) (tt1 : WT) (te : WE) (vs1 : List Nat) (σ2 : SS) (N : List D → LS → Prop) (acc0 : List D) (l : LS) : Prop := ∃ Iv : Nat → List D → LS → Prop, Iv 0 acc0 l ∧ (∀ j acc l, Iv j acc l → I1.ok l ∧ acc.length < sizeLine) ∧
  (∀ j x acc l, I1.xs[j]? = some x → Iv j acc l → g1 (.d x) (wipeD σ2 vs1) l (kIn2 tt1 te vs1 σ2 (Iv (j + 1)) acc)) ∧ ∀ acc l, Iv I1.xs.length acc l → N acc l
def kTs2 (wi1 : WI) (g1 : WG) (tt1 : WT) (te : WE) (vs1 : List Nat) (N : List D → LS → Prop) (acc : List D) (σ : SS) (b : Bool) (l : LS) : Prop := if b = true then wi1 σ l (fun I1 l => lcIn I1 g1 tt1 te vs1 σ N acc l) noEx else N acc l
def kOut2 (tt : WT) (wi1 : WI) (g1 : WG) (tt1 : WT) (te : WE) (vs vs1 : List Nat) (σ : SS) (N : List D → LS → Prop) (acc : List D) (σ2 : SS) (l : LS) : Prop := wipeD σ2 vs = wipeD σ vs ∧ tt σ2 l (kTs2 wi1 g1 tt1 te vs1 N acc σ2) noEx
def lc2P (I : Items) (g : WG) (tt : WT) (wi1 : WI) (g1 : WG) (tt1 : WT) (te : WE) (vs vs1 : List Nat) (f : Fresh) (σ : SS) (l : LS) (Q : P → LS → Prop) : Prop := ∃ Iv : Nat → List D → LS → Prop, Iv 0 [] l ∧ (∀ i acc l, Iv i acc l → I.ok l) ∧
  (∀ i x acc l, I.xs[i]? = some x → Iv i acc l → g (.d x) (wipeD σ vs) l (kOut2 tt wi1 g1 tt1 te vs vs1 σ (Iv (i + 1)) acc)) ∧ ∀ acc l, Iv I.xs.length acc l → freshL f acc l Q
def wLc2 (wi : WI) (g : WG) (tt : WT) (wi1 : WI) (g1 : WG) (tt1 : WT) (te : WE) (vs vs1 : List Nat) (f : Fresh) (σ : SS) (l : LS) (Q : P → LS → Prop) (E : EK) : Prop := wi σ l (fun I l => lc2P I g tt wi1 g1 tt1 te vs vs1 f σ l Q) E
theorem RP.lat {K : PySem.W.Frag} {p p' : Pt} (e : Lat p p') {x : P} {v : V} (h : RP K p x v) : RP K p' x v := by
  cases x with
  | d x => exact RD.mono e.hf h
  | loc n =>
    obtain ⟨a, h1, h2⟩ := h
    obtain ⟨t, ht⟩ := e.pre
    refine ⟨a, ?_, h2⟩
    rw [ht, List.getElem?_append_left]
    · exact h1
    · exact (List.getElem?_eq_some_iff.mp h1).1
  | exc a c d ex => exact ⟨h.1, h.2.mono e.hf⟩
theorem Slots.lat {K : PySem.W.Frag} {p p' : Pt} (e : Lat p p') {σ : St} {σd : SS} (h : Slots K p σd σ) : Slots K p' σd σ := ⟨h.1, fun i d q => by
  obtain ⟨v, h1, h2⟩ := h.2 i d q
  exact ⟨v, h1, h2.lat e⟩⟩
theorem Grow.addHF {K : PySem.W.Frag} {p1 p : Pt} {b0 : Addr} {acc : List QL.D} {l : LS} (g : Grow K p1 p b0 acc l) (n1 : p1.H b0 = none) (v : V) {vs : List V} : HF p ⟨upd p.H b0 (.lst (vs ++ [v])), p.rho, p.F⟩ := by
  obtain ⟨ws, h1, _⟩ := g.at_
  exact ⟨fun _ z => z, fun b o z f => by
    show upd _ _ _ _ = _
    rw [upd_ne fun q => g.nF (by rw [← q]; exact f)]; exact z, fun b u z => by
    show upd _ _ _ _ = _
    rw [upd_ne fun q => by rw [q, h1] at z; cases z]; exact z⟩
section
variable {X : Cx} {W : WX} {elt tg iter tg1 iter1 : Expr} {ifs ifs1 : List Expr} {scope : Scope} {own : List (Str × Nat)} {pos : Pos} {wi wi1 : WI} {g g1 : WG} {tt tt1 : WT} {te : WE} {vs1 : List Nat}
theorem lc2_ok {f : Fresh} {σ : St} {H : Hp} {Q : VK} (h : cE X.K W (wLc2 wi g tt wi1 g1 tt1 te (own.map (·.2)) vs1 f) σ H Q) : tLc2 (cI X.K W wi) (cGv X.K (own.map (·.2)) g) (cT X.K W0 tt) (cI X.K W0 wi1) (cGv X.K vs1 g1) (cT X.K W0 tt1) (cE X.K W0 te) (own.map (·.2)) vs1 σ H Q := by
  obtain ⟨p, σd, l, Qd, Ed, hH, R, hw, k, lk⟩ := h
  subst hH
  refine cI_ok R hw lk fun I l1 J p1 e1 R1 it q1 D hD => ?_
  obtain ⟨Iv, h0, hok, hturn, hend⟩ := q1
  refine ⟨fun i m H' => m = I.xs.length - i ∧ i ≤ I.xs.length ∧ ∃ p2 l2 acc, p2.H = H' ∧ Grow X.K p1 p2 D acc l2 ∧ Iv i acc l2, ⟨_, rfl, Nat.zero_le _, _, l1, [], rfl, Grow.start R1.wf R1.ce hD, h0⟩, ?_⟩
  rintro i m H2 ⟨rfl, hi, p2, l2, acc, rfl, G2, q2⟩
  obtain ⟨i1, i2, i3⟩ := it p2 l2 G2.e.lat G2.w G2.c (hok _ _ _ q2) i
  by_cases hlt : i < I.xs.length
  · refine .inr ⟨i2 hlt, fun H' => ∃ p2 l2 acc, p2.H = H' ∧ Grow X.K p1 p2 D acc l2 ∧ Iv (i + 1) acc l2, fun H' hN => ⟨I.xs.length - (i + 1), by omega, rfl, hlt, hN⟩, fun x H' hy => ?_⟩
    obtain ⟨p3, rfl, e3, w3, c3, r3⟩ := i3 x H' _ (List.getElem?_eq_getElem hlt) hy
    have G3 := G2.go e3 w3 c3
    have R3 : Rel X.K p3 (wipe σ (own.map (·.2))) (wipeD σd (own.map (·.2))) l2 := ⟨w3, ((R1.sl.mono G3.e).wipe _), c3⟩
    refine ⟨p3, _, l2, .d _, _, rfl, R3, r3, hturn i _ acc l2 (List.getElem?_eq_getElem hlt) q2, fun p4 σ4 σd4 l4 e4 R4 z1 z2 q4 => ⟨wipe_idem z1 z2, ?_⟩⟩
    have G4 := G3.go e4 R4.wf R4.ce
    refine cT_ok R4 q4.2 LinkE.never fun b l5 p5 e5 R5 q5 => ?_
    have G5 := G4.go e5 R5.wf R5.ce
    cases b with
    | false =>
      unfold kTs2 at q5
      rw [if_neg Bool.false_ne_true] at q5 ⊢
      exact ⟨p5, l5, acc, rfl, G5, q5⟩
    | true =>
      unfold kTs2 at q5
      rw [if_pos rfl] at q5 ⊢
      refine cI_ok R5 q5 LinkE.never fun I1 l6 J1 p6 e6 R6 it1 q6 => ?_
      have G6 := G5.go e6 R6.wf R6.ce
      obtain ⟨Iw, g0, gok, gturn, gend⟩ := q6
      refine ⟨fun j k' H' => k' = I1.xs.length - j ∧ j ≤ I1.xs.length ∧ ∃ p7 l7 acc7, p7.H = H' ∧ Lat p6 p7 ∧ Grow X.K p1 p7 D acc7 l7 ∧ Iw j acc7 l7, ⟨_, rfl, Nat.zero_le _, p6, l6, acc, rfl, (Ext.refl _).lat, G6, g0⟩, ?_⟩
      rintro j k' H7 ⟨rfl, hj, p7, l7, acc7, rfl, e7, G7, q7⟩
      obtain ⟨okk, sz⟩ := gok _ _ _ q7
      obtain ⟨j1, j2, j3⟩ := it1 p7 l7 e7 G7.w G7.c okk j
      by_cases hlj : j < I1.xs.length
      · refine .inr ⟨j2 hlj, fun H' => ∃ p7 l7 acc7, p7.H = H' ∧ Lat p6 p7 ∧ Grow X.K p1 p7 D acc7 l7 ∧ Iw (j + 1) acc7 l7, fun H' hN => ⟨I1.xs.length - (j + 1), by omega, rfl, hlj, hN⟩, fun y H' hy => ?_⟩
        obtain ⟨p8, rfl, e8, w8, c8, r8⟩ := j3 y H' _ (List.getElem?_eq_getElem hlj) hy
        have G8 := G7.go e8 w8 c8
        have R8 : Rel X.K p8 (wipe σ4 vs1) (wipeD σd4 vs1) l7 := ⟨w8, ((Slots.lat (e7.trans e8.lat) R6.sl).wipe _), c8⟩
        refine ⟨p8, _, l7, .d _, _, rfl, R8, r8, gturn j _ acc7 l7 (List.getElem?_eq_getElem hlj) q7, fun p9 σ9 σd9 l9 e9 R9 y1 y2 q9 => ⟨wipe_idem y1 y2, ?_⟩⟩
        have G9 := G8.go e9 R9.wf R9.ce
        refine cT_ok R9 q9.2 LinkE.never fun b1 l10 p10 e10 R10 q10 => ?_
        have G10 := G9.go e10 R10.wf R10.ce
        have E10 := ((e7.trans e8.lat).trans e9.lat).trans e10.lat
        cases b1 with
        | false =>
          unfold kEl2 at q10
          rw [if_neg Bool.false_ne_true] at q10 ⊢
          exact ⟨p10, l10, acc7, rfl, E10, G10, q10⟩
        | true =>
          unfold kEl2 at q10
          rw [if_pos rfl] at q10 ⊢
          refine cE_ok R10 q10 LinkE.never fun z l11 v p11 e11 R11 r11 q11 => ?_
          have G11 := G10.go e11 R11.wf R11.ce
          unfold kEl at q11
          split at q11
          · rename_i z
            obtain ⟨vs, h1, h2, G12⟩ := G11.add hD r11
            refine ⟨vs, h1, by rw [h2]; exact sz, _, l11, _, rfl, ?_, G12, q11⟩
            exact (E10.trans e11.lat).trans ⟨G11.addHF hD v, [], by simp⟩
          · exact q11.elim
      · have : j = I1.xs.length := by omega
        subst this
        exact .inl ⟨j1 (Nat.le_refl _), p7, l7, acc7, rfl, G7, gend _ _ q7⟩
  · have : i = I.xs.length := by omega
    subst this
    exact .inl ⟨i1 (Nat.le_refl _), G2.end_ hD (hend _ _ q2) fun d l' v p' e' w' c' r' q' => k d l' v p' (e1.trans e') (R1.ext e' w' c') r' q'⟩
theorem qe_lc2 {f : Fresh} (hc : X.calm = true) (hN : X.N.Nodup) (hi : QI X W tg iter wi) (ok : BlkOk X.N X.env.scope scope own) (hv : ∀ i ∈ vs1, i ∈ own.map (·.2))
    (hg : ∀ (s : Shared) (H : Hp) (C : Addr) (cl : List (Str × Addr)) (fp : List Addr), QGv (X.blk s H scope (compEnvC scope cl C X.env) fp) (own.map (·.2)) tg g) (ht : ∀ (s : Shared) (H : Hp) (C : Addr) (cl : List (Str × Addr)) (fp : List Addr), QTs (X.blk s H scope (compEnvC scope cl C X.env) fp) W0 ifs tt)
    (hi1 : ∀ (s : Shared) (H : Hp) (C : Addr) (cl : List (Str × Addr)) (fp : List Addr), QI (X.blk s H scope (compEnvC scope cl C X.env) fp) W0 tg1 iter1 wi1)
    (hg1 : ∀ (s : Shared) (H : Hp) (C : Addr) (cl : List (Str × Addr)) (fp : List Addr), QGv (X.blk s H scope (compEnvC scope cl C X.env) fp) vs1 tg1 g1) (ht1 : ∀ (s : Shared) (H : Hp) (C : Addr) (cl : List (Str × Addr)) (fp : List Addr), QTs (X.blk s H scope (compEnvC scope cl C X.env) fp) W0 ifs1 tt1)
    (he : ∀ (s : Shared) (H : Hp) (C : Addr) (cl : List (Str × Addr)) (fp : List Addr), QE (X.blk s H scope (compEnvC scope cl C X.env) fp) W0 elt te) (hs : ∀ x, foldedSetIterable iter X.env x = pure x := by intro _; rfl) (hs1 : ∀ env x, foldedSetIterable iter1 env x = pure x := by intro _ _; rfl) :
    QE X W (.ListComp elt [⟨tg, iter, ifs, 0⟩, ⟨tg1, iter1, ifs1, 0⟩] scope pos) (wLc2 wi g tt wi1 g1 tt1 te (own.map (·.2)) vs1 f) :=
  PE.imp (pe_lc2 (own := own) (vs1 := vs1) (g := cGv X.K (own.map fun q : Str × Nat => q.2) g) (tt := cT X.K W0 tt) (wi1 := cI X.K W0 wi1) (g1 := cGv X.K vs1 g1) (tt1 := cT X.K W0 tt1) (te := cE X.K W0 te) hc hN hi ok hv hg ht hi1 hg1 ht1 he hs hs1) fun σ H Q h => lc2_ok h
end
end QL
set_option Elab.async false
set_option linter.all false
set_option maxRecDepth 100000
set_option maxHeartbeats 4000000
/-! QX7: a caught exception is handed to a def. -/
namespace QL
open PySem L2
section
variable {X : Cx} {pins : List (Addr × Obj)} {σ : St} {H : Hp} {s : Shared} {a : Addr} {oe : Obj}
/-- the suite's exception is laid to the base, for a callee -/
theorem base_add (I : Inv X pins σ H s) (hp : (a, oe) ∈ X.pn) (hf : ∃ vs, oe.data = .fields vs) : ∃ B : Heap, B.get? a = some oe ∧ Env0 X.prog X.w X.K X.mg B X.A X.stack s H := by
  obtain ⟨ha, hn, _, _, _⟩ := I.pin (a, oe) (List.mem_append_left _ hp)
  obtain ⟨vs, hv⟩ := hf
  let l := (List.range s.heap.objs.size).filter fun b => !((X.base.get? b).isSome || decide (b = a))
  have mem : ∀ b, b ∈ l → X.base.get? b = none ∧ b ≠ a := fun b hb => by
    have z := (List.mem_filter.mp hb).2
    simp only [Bool.not_eq_true', Bool.or_eq_false_iff, decide_eq_false_iff_not, Option.isSome_eq_false_iff, Option.isNone_iff_eq_none] at z
    exact z
  have nmem : ∀ b, b < s.heap.objs.size → X.base.get? b = none → b ≠ a → b ∈ l := fun b h1 h2 h3 => by
    exact List.mem_filter.mpr ⟨List.mem_range.mpr h1, by simp [h2, h3]⟩
  have keep : ∀ b o, X.base.get? b = some o → (PySem.W.hideAll s.heap l).get? b = some o := fun b o e =>
    PySem.W.hideAll_get l (I.bk b o e) fun m => by rw [(mem b m).1] at e; cases e
  refine ⟨PySem.W.hideAll s.heap l, PySem.W.hideAll_get l ha fun m => (mem a m).2 rfl, ?_⟩
  refine ⟨I.ok.frames, ⟨I.mod.kin.keeps keep, I.mod.glob.keeps keep, ?_, I.mod.nolimit.keeps keep⟩, fun b o e => ?_, Nat.le_of_eq (PySem.W.hideAll_size _ _), ?_, I.stkFree, I.hok, I.bare⟩
  · obtain ⟨mb, h1, h2⟩ := I.mod.blt
    exact ⟨mb, h1.keeps keep, h2⟩
  · have e2 := PySem.W.of_hideAll l e
    refine ⟨e2, ?_⟩
    by_cases hb : b = a
    · rw [hb]; exact hn
    · cases q : X.base.get? b with
      | some o' => exact (I.bs b o' q).2
      | none =>
        have := PySem.W.hideAll_none (h := s.heap) l (nmem b (Heap.lt_size e2) q hb)
        rw [this] at e; cases e
  · refine funFrames_none I.stack fun L hL => ?_
    obtain ⟨h1, o, ho, hd⟩ := I.stack.mem hL
    refine PySem.W.hideAll_none l (nmem L (Heap.lt_size ho) h1 fun z => ?_)
    rw [z, ha] at ho
    cases ho
    exact hd vs hv
end
/-- a def that takes an exception: its promise holds over every base that has it -/
def CalX (P : Program) (w : World) (K : PySem.W.Frag) (mg : Str → Option Value) (k : Nat) (x : Str) (n : Nat) (fs : Addr → Value → Option Addr → FS) : Prop :=
  ∃ f fd ps, (∀ (a : Addr) (oe : Obj) (cls : Value) (d : Option Addr) (base : Heap), base.get? a = some oe → Zc cls d oe → (∃ vs, oe.data = .fields vs) → L2H.FnH P w K mg base (L2N.CX P w) k f fd ps (spQ K n (fs a cls d))) ∧ mg x = some (.ref f) ∧ PySem.W.keepIn K (.ref f) = true ∧ Binds K fd ps []
section
variable {X : Cx} {W : WX} {e : Expr} {es : List Expr} {we : WE} {ws : WA} {pos q : Pos} {x : Str} {fs : Addr → Value → Option Addr → FS} {k j n : Nat} {a : Addr} {oe : Obj} {cls cv : Value} {d : Option Addr} {f : Str} {L : List Str} {m : Str → Bool} {cV : V} {c : Expr}
theorem qe_callX (hot : L2H.HotC X) (hp : (a, oe) ∈ X.pn) (hz : Zc cls d oe) (hf : ∃ vs, oe.data = .fields vs) (c : CalX X.prog X.w X.K X.mg k x n fs) (hr : L2H.RoomH j X.A) (hk : k ≤ j) (tk : L2N.Takes X W) (hg : Gl X x) (ha : QA X W (e :: es) ws)
    (hdb : (x == ("__debug__" : Str)) = false := by decide) (he : starEach (e :: es) X.env = (false, eval e X.env) :: starEach es X.env := by rfl) (hpl : (backTo pos (starEach es X.env)).any (·.1) = false := by rfl) :
    QE X W (.Call (.Name x q) (e :: es) [] pos) (wCall n (fs a cls d) ws) := by
  obtain ⟨f, fd, ps, F, hm, hkp, hb⟩ := c
  refine ⟨fun pins s σ H Q I h => ?_⟩
  obtain ⟨p, σd, l, Qd, Ed, hH, R, hw, kk, lk⟩ := h
  subst hH
  refine wpAny_Call_Name_kw (ld_glob I hg hm ?_ hdb)
  refine PySem.W.callWith_K (h₀ := X.base) I.ok.mod.kin hkp (thn (ha.run pos pins s σ _ (fun us H1 => spQ X.K n (fs a cls d) us H1 Q (L2.WE W σ)) I (cA_ok R hw lk fun vs l1 us p1 e1 R1 r1 q1 => ?_)) fun us s1 ⟨vs, H1, I1, r, h⟩ => ⟨I1.kIn, ?_⟩) he hpl
  · exact call_ok R1.wf R1.ce r1 q1.1 q1.2 (fun d l' v p' e' w' c' r' q' => kk d l' v p' (e1.trans e') (R1.ext e' w' c') r' q') fun ex l' cls dd p' e' w' c' x q => lk ex l' cls dd p' (e1.trans e') (R1.ext e' w' c') x q
  · obtain ⟨B, hB, e0⟩ := base_add I1 hp hf
    have F1 := F a oe cls d B hB hz hf
    have hl : us.length = ps.length := by rw [← r.length]; exact F1.len _ _ _ _ h
    have b := hb s1 us I1.kIn (by rw [List.append_nil]; exact hl)
    rw [List.append_nil] at b
    obtain ⟨p1, ht1, hp1⟩ := hot
    have P1 := I1.pin p1 (List.mem_append_left _ hp1)
    have hpin : L2H.PinOk X.stack H1 s1 p1 := ⟨P1.1, P1.2.1, fun hm => (List.mem_cons.mp (I1.stkSub p1.1 hm)).elim P1.2.2.1 P1.2.2.2.1, P1.2.2.2.2⟩
    refine wpAny_call (codeAny_mono (F1.run X.A X.stack s1 H1 ⟨us, []⟩ us vs Q (L2.WE W σ) p1 (hr.mono hk) ht1 hpin e0 b r h) fun r s' hq => ?_)
    cases r with
    | error e => exact L2N.passAt tk σ pins H1 s1 e s' I1 hq
    | ok fl =>
      cases fl with
      | ret u => exact I1.after hq
      | next => exact False.elim hq
      | brk => exact False.elim hq
      | cont => exact False.elim hq
theorem qe_xfB (hB : X.base.get? a = some oe) (hL : ∀ y ∈ L, XfC X.K (clsA X.K y) ∧ PySem.W.findIn X.K (.ref (clsA X.K y)) f = some none)
    (hz : Zc cls d oe) (hf : ∃ vs, oe.data = .fields vs) (he : QE X W e we) (hb : attributeBase e f X.env (eval e X.env) = eval e X.env := by rfl) :
    QE X W (.Attribute e f pos) (wXf a cls d L f we) := by
  refine ⟨fun pins s σ H Q I h => ?_⟩
  obtain ⟨p, σd, l, Qd, Ed, hH, R, hw, kk, lk⟩ := h
  subst hH
  refine attr_of hb (thn (he.run pins s σ _ (fun v H1 => ∃ (p1 : Pt) (l1 : LS) (r : P), p1.H = H1 ∧ Ext p p1 ∧ Rel X.K p1 σ σd l1 ∧ RP X.K p1 r v ∧ kXf a cls d L f Qd r l1) I (cE_ok R hw lk fun r l1 v p1 e1 R1 r1 q1 => ⟨p1, l1, r, rfl, e1, R1, r1, q1⟩)) fun u s1 hh => ?_)
  obtain ⟨v, H1, I1, ru, p1, l1, r, rfl, e1, R1, r1, x, ns, xs, y, rfl, hx, hy, q⟩ := hh
  obtain ⟨T, hno⟩ := hL x hx
  obtain ⟨rfl, rfl, dd, vs, rfl, hF, hd, rds⟩ := r1
  obtain rfl : u = Value.ref a := ru
  have ha := I1.bk a oe hB
  obtain ⟨vs0, hd0⟩ := hf
  have hx : ObjOk X.prog X.w p1.H s1.heap dd (.xd (ns.zip vs)) := I1.hok dd _ hd
  obtain ⟨mA, hns, hr⟩ := hx
  obtain ⟨od, ho, hl⟩ := lookIn_ns hns
  obtain ⟨v, hv, rv⟩ := rds_look rds hy
  obtain ⟨u, hu, ru⟩ := RelO.some_of (v := v) (o := mA f) (by rw [← hv]; exact hr f)
  have J : PySem.W.InstAt s1.heap a oe (clsA X.K x) (some od) := ⟨ha, hz.1, by unfold PySem.W.notCls; rw [hd0] <;> rfl, by rw [hz.2]; exact ho⟩
  exact HandSPX.exc_get I1.kIn J T.ga T.gg T.exC (PySem.W.findObj_own T.hdC hno rfl (by rw [hl, hu])) (handed_of ru) ⟨v, p1.H, I1.tok _, ru, kk (.d y) l1 v p1 e1 R1 rv q⟩
theorem call_isXB (hB : X.base.get? a = some oe) (hL : ∀ y ∈ L, ExcC X.K (clsA X.K y) ∧ PySem.W.kitOne X.K (.ref (clsA X.K y)) cv = some (m y))
    (hz : Zc cls d oe) (hf : ∃ vs, oe.data = .fields vs) : CallR X (.builtin "isinstance") (rIsX X.K L m cv a cls d) := by
  intro pins s σ H xs us Q I r h
  obtain ⟨c, y, dd, fs, rfl, hcv, hy, rfl, rfl, hd, q⟩ := h
  obtain ⟨C, e⟩ := hL y hy
  cases r with
  | cons rx rr =>
    cases rr with
    | cons rt rr =>
      cases rr
      cases rx
      have ec := hcv _ rt
      subst ec
      have hget := I.bk a oe hB
      obtain ⟨vs, hv⟩ := hf
      have hx : ObjOk X.prog X.w H s.heap dd (.xd fs) := I.hok dd _ hd
      obtain ⟨mA, hns, hr⟩ := hx
      obtain ⟨od, ho, hl⟩ := lookIn_ns hns
      have J : PySem.W.InstAt s.heap a oe (clsA X.K y) (some od) := ⟨hget, hz.1, by unfold PySem.W.notCls; rw [hv] <;> rfl, by rw [hz.2]; exact ho⟩
      exact PySem.W.kia_one (PySem.W.q_kit C) I.kIn J e (fun z => nomatch z) fun tk => ⟨.bl (m y), H, I.kept (t' := tk) fun _ _ z => z, rfl, q⟩
theorem qe_isXB (hB : X.base.get? a = some oe) (hL : ∀ y ∈ L, ExcC X.K (clsA X.K y) ∧ PySem.W.kitOne X.K (.ref (clsA X.K y)) cv = some (m y))
    (hz : Zc cls d oe) (hf : ∃ vs, oe.data = .fields vs) (he : QE X W e we) (hc : PE X c (tC cV)) (hcv : ∀ u, RelV cV u → u = cv)
    (hg : Gl X "isinstance") (hm : X.mg "isinstance" = none)
    (hst : starEach (e :: [c]) X.env = (false, eval e X.env) :: starEach [c] X.env := by rfl) (hst2 : starEach [c] X.env = [(false, eval c X.env)] := by rfl) (hpl : (backTo pos (starEach [c] X.env)).any (·.1) = false := by rfl) :
    QE X W (.Call (.Name "isinstance" q) [e, c] [] pos) (wIsX L m a cls d we) := by
  refine PE.imp (pe_callB (call_isXB hB hL hz hf) hg hm (by rfl) (pa_cons he (pa_cons hc pa_nil hst2) hst) (by decide) (by decide) hst hpl) fun σ H Q ⟨p, σd, l, Qd, Ed, hH, R, hw, kk, lk⟩ => ?_
  subst hH
  refine cE_ok R hw lk fun r l1 v p1 e1 R1 r1 ⟨y, ns, xs, er, hy, q⟩ => ?_
  subst er
  obtain ⟨rfl, ec, dd, vs, ed, hF, hd, rds⟩ := r1
  exact ⟨cV, y, dd, _, rfl, hcv, hy, ec, ed, hd, kk (.d (.bl (m y))) l1 _ p1 e1 R1 (RD.bl _) q⟩
end
section
variable {P : Program} {w : World} {K : PySem.W.Frag} {mg : Str → Option Value} {base : Heap}
open PyProof.Rows (envOfC) in
/-- THE RULE for a def that runs while an exception is handled -/
theorem fun_qH {x qual : Str} {st : Stmt} {f : Addr} {fd : FuncData} {N ps : List Str} {k : Nat} {fs : FS} {wb : WS} (F : Fun K x qual st f fd) (S : FnScope N ps (defScope st)) (n : Nat) (hn : n = ps.length)
    (hbody : ∀ (cdv : Value) (A : Around) (outer : List Env) (s : Shared) (H : Hp) (E : XK) (p : Addr × Obj), L2H.RoomH k (A.deeper (envOfC qual (defScope st) s.heap.objs.size f cdv)) →
      L2N.Takes (L2H.cxH (L2N.CX P w) P w K mg base N qual (defScope st) f cdv A outer s H E p) (fun cls d _ H => E cls d H) →
      QSs (L2H.cxH (L2N.CX P w) P w K mg base N qual (defScope st) f cdv A outer s H E p) (fun cls d _ H => E cls d H) (defBody st) wb)
    (hw : ∀ ds l Qd Ed, ds.length = n → fs ds l Qd Ed → wb { nx := kEnd l.length Qd, rt := retN l.length Qd, bk := kNever, ct := kNever, ex := kEx Ed } (startD N ds) l) :
    L2H.FnH P w K mg base (L2N.CX P w) (k + 1) f fd ps (spQ K n fs) := by
  obtain ⟨oc, od, kV, doc, pm, an, cdv, ct, osl, rfl, lk, hcd⟩ := F.ex
  refine L2H.fn_ofH lk hcd S (fun vs H Q E h => ?_) fun A outer s H vs Q E p _ hr h => ⟨_, hbody cdv A outer s H E p hr (L2N.takes_of rfl rfl rfl rfl), ?_⟩
  · obtain ⟨p, ds, l, Qd, Ed, _, _, _, r, e, _⟩ := h
    rw [← Paired.length r, e, hn]
  · obtain ⟨p, ds, l, Qd, Ed, rfl, wf, ce, r, e, hfs, kk, kx⟩ := h
    refine cS_ok ⟨wf, start_sl r, ce⟩ (hw ds l Qd Ed e hfs) ⟨fun p' σ' σd' l' e' R q => ?_, fun _ _ _ _ _ _ q => q.elim, fun _ _ _ _ _ _ q => q.elim, fun p' d v l' e' w' c' r' q => ?_, fun p' σ' σd' l' ex cls dd e' R x q => ?_⟩
    · exact ret_ok (r := .d .non) e' R.wf R.ce RD.non ce.1.symm q kk
    · exact ret_ok e' w' c' r' ce.1.symm q kk
    · exact kx ex l' cls dd p' e' R.wf R.ce x q
theorem calx {k : Nat} {x : Str} {n : Nat} {fs : Addr → Value → Option Addr → FS} {f : Addr} {fd : FuncData} {st : Stmt} {ps : List Str} (F : Fun K x x st f fd) (hm : mg x = some (.ref f))
    (ok : ∀ (a : Addr) (oe : Obj) (cls : Value) (d : Option Addr) (base : Heap), base.get? a = some oe → Zc cls d oe → (∃ vs, oe.data = .fields vs) → L2H.FnH P w K mg base (L2N.CX P w) k f fd ps (spQ K n (fs a cls d)))
    (h : ∀ (kV doc pm : Value) (an : Option Addr) (cdv ct : Value) (us : List Value), us.length = ps.length → bindArgs (PySem.W.fnOf x x (defArgs st) (defBody st) (defScope st) .none kV doc pm an cdv ct) ⟨us, []⟩ = pure (ps.zip us)) : CalX P w K mg k x n fs :=
  ⟨f, fd, ps, ok, hm, F.kp, F.binds h⟩
end
end QL
set_option Elab.async false
set_option linter.all false
set_option maxRecDepth 100000
set_option maxHeartbeats 4000000
/-! QS4: a tuple of texts of the module, text.upper(). -/
namespace QL
open PySem L2
section
variable {X : Cx} {W : WX} {x : Str} {pos : Pos} {d : D}
/-- a tuple constant of the module -/
theorem qe_globT (hg : Gl X x) (hm : ∃ u, X.mg x = some u ∧ ∃ v, RelV v u ∧ ∀ p, RD X.K p d v) (hd : (x == ("__debug__" : Str)) = false := by decide) : QE X W (.Name x pos) (wC d) := by
  obtain ⟨u, h1, v, h2, h3⟩ := hm
  exact qe_const (pe_glob hg h1 h2 hd) h3
end
def strOf : Value → Option Str
  | .str x _ => some x
  | _ => none
/-- the texts of a tuple of the written part -/
def strsAt (K : PySem.W.Frag) (u : Value) : Option (List Str) := match u with
  | .ref a => match K.lookup a with
    | some ⟨.type "tuple", _, .seq its _, _⟩ => its.toList.mapM strOf
    | _ => none
  | _ => none
theorem strs_vals {K : PySem.W.Frag} {p : Pt} : ∀ {us : List Value} {xs : List Str}, us.mapM strOf = some xs → Vals (xs.map V.str) us ∧ RDs K p (xs.map D.str) (xs.map V.str) ∧ us.length = xs.length
  | [], xs, h => by
    cases h
    exact ⟨.nil, .nil, rfl⟩
  | u :: us, xs, h => by
    rw [List.mapM_cons] at h
    cases e : strOf u with
    | none => rw [e] at h; cases h
    | some y =>
      cases e2 : us.mapM strOf with
      | none => rw [e, e2] at h; cases h
      | some ys =>
        rw [e, e2] at h
        cases h
        obtain ⟨h1, h2, h3⟩ := strs_vals (K := K) (p := p) e2
        refine ⟨.cons ?_ h1, .cons (.str y) h2, by simp [h3]⟩
        cases u <;> cases e
        exact ⟨_, rfl⟩
theorem strsAt_ok {K : PySem.W.Frag} {u : Value} {xs : List Str} (h : strsAt K u = some xs) (hz : xs.length ≤ sizeLine) : ∃ v, RelV v u ∧ ∀ p, RD K p (.ktu (xs.map .str)) v := by
  unfold strsAt at h
  split at h
  · rename_i a
    split at h
    · rename_i dd its n sl ho
      refine ⟨.ref a, rfl, fun p => ?_⟩
      obtain ⟨h1, h2, h3⟩ := strs_vals (K := K) (p := p) h
      refine .ktu (.inr ⟨_, its, n, ho, rfl, rfl, ?_, h1⟩) h2
      have : its.size = its.toList.length := by simp
      rw [this, h3]
      exact hz
    · cases h
  · cases h
section
variable {X : Cx} {W : WX} {wo : WE} {o : Expr}
def kM0S (rd : ODm) (Q : P → LS → Prop) (x : P) (l : LS) : Prop := (∃ z, x = .d (.str z)) ∧ rd x [] l Q
def wM0S (rd : ODm) (wo : WE) (σ : SS) (l : LS) (Q : P → LS → Prop) (E : EK) : Prop := wo σ l (kM0S rd Q) E
def oUpper (x : P) (_ : List P) (l : LS) (Q : P → LS → Prop) : Prop := match x with
  | .d (.str z) => z.length ≤ 5592405 ∧ Q (.d (.str (Txt.upper z))) l
  | _ => False
theorem qe_upper {apos pos : Pos} (ho : QE X W o wo) (hbase : attributeBase o "upper" X.env (eval o X.env) = eval o X.env := by rfl) (hline : (apos.endLine == pos.line) = true := by rfl) :
    QE X W (.Call (.Attribute o "upper" apos) [] [] pos) (wM0S oUpper wo) :=
  PE.imp (pe_upper ho hbase hline) fun σ H Q ⟨p, σd, l, Qd, Ed, hH, R, hw, k, lk⟩ => by
    subst hH
    refine cE_ok R hw lk fun x l1 v p1 e1 R1 r1 ⟨⟨z, hz⟩, q⟩ => ?_
    subst hz
    cases (show RD X.K p1 (.str z) v from r1)
    exact ⟨⟨z, rfl⟩, z, rfl, rfl, q.1, k (.d _) l1 _ p1 e1 R1 (RD.str _) q.2⟩
end
end QL
namespace QL
open PySem L2
theorem ref_notInC {K : PySem.W.Frag} : RefOp K (fun x y H Q => ∃ i j, x = .str i ∧ y = .str j ∧ Q (.bl (!(!(Builtin.Str.occurrences j i 0 j.length 1).isEmpty))) H) (oInC true) := fun p l x y vx vy Qd Q w ce rx ry h k => by
  unfold oInC at h
  split at h
  · cases rx; cases ry
    obtain ⟨c, rfl, h⟩ := h
    rw [Bool.xor_true] at h
    refine ⟨_, _, rfl, rfl, ?_⟩
    rw [PySem.StrLaws.found_one]
    exact k.same w ce (d := .d _) (RD.bl _) h
  · exact h.elim
end QL
set_option Elab.async false
set_option linter.all false
set_option maxRecDepth 100000
set_option maxHeartbeats 4000000
/-! QH1: within an except suite: a comprehension over a range, calls that take the exception. -/
theorem L2H.RoomH.units {k : Nat} {A : PySem.Around} (r : L2H.RoomH k A) : A.units + 64 < PySem.cLine := by have := r.un; omega
theorem L2H.RoomH.u1 {k : Nat} {A : PySem.Around} (r : L2H.RoomH k A) : A.units + 1 < PySem.cLine := by have := r.un; omega
theorem L2H.RoomH.u65 {k : Nat} {A : PySem.Around} (r : L2H.RoomH k A) : A.units + 65 < PySem.cLine := by have := r.un; omega
theorem L2H.room_hot {k : Nat} {A : PySem.Around} (r : L2.Room k A) (h : Option PySem.Value) : L2H.RoomH k (A.mark h) := ⟨r.dp, r.un⟩
namespace QL
open PySem L2 PySem.Spec PyProof.Rows
theorem takes_noneN {X : Cx} : L2N.Takes X (fun _ _ _ _ => False) := fun _ _ ⟨_, _, _, _, _, _, _, _, _, _, _, _, _, _, _, _, w⟩ => w.elim
/-- in a suite the handled exception's context is None -/
theorem hot_suite {X : Cx} {a : Addr} {oe : Obj} {cls : Value} {d : Option Addr} {pn : List (Addr × Obj)} (hz : L2N.Zn cls d oe) (hf : ∃ vs, oe.data = .fields vs) : L2H.HotC (X.suite a ((a, oe) :: pn)) := by
  obtain ⟨vs, hv⟩ := hf
  exact ⟨(a, oe), ⟨rfl, vs, hv, hz.2.2 vs hv⟩, List.mem_cons_self⟩
/-- the block of a comprehension with its caller's pins -/
abbrev blkP (X : Cx) (s : Shared) (H : Hp) (scope : Scope) (ce : Env) (fp : List Addr) : Cx := { X.blk s H scope ce fp with pn := X.pn }
section
variable {X : Cx} {pins : List (Addr × Obj)} {σ σ' : L2.St} {H H' : Hp} {s s' : Shared} {scope : Scope} {ce : Env} {fp : List Addr}
theorem ok_pn {Y : Cx} {pn : List (Addr × Obj)} (o : Y.Ok) : ({ Y with pn := pn } : Cx).Ok := ⟨o.mod, o.kind, o.glob, o.blt, o.above, o.inj, o.has, o.cab, o.hd, o.frames, o.stk, o.exf, o.bs, o.bsz, o.noex, o.exfs, o.funs, o.frf⟩
theorem pin_on (I3 : L2.Inv X pins σ H s) (hfp : ∀ b ∈ fp, FpOk X pins H b) (hL : ce.locals = s.heap.objs.size) (I : L2.Inv (X.blk s H scope ce fp) [] σ' H' s') : L2.Inv (blkP X s H scope ce fp) [] σ' H' s' := by
  refine ⟨ok_pn I.ok, I.os, I.bare, I.base, I.loc, I.cell, I.free, I.freeC, fun p hp => ?_, I.hok, I.len⟩
  rw [List.append_nil] at hp
  have hp : p ∈ X.pn := hp
  obtain ⟨g1, g2, g3, g4, g5⟩ := I3.pin p (List.mem_append_left _ hp)
  have nst : p.1 ∉ frs X.stack := fun hm => (List.mem_cons.mp (I3.stkSub p.1 hm)).elim g3 g4
  have nfp : p.1 ∉ fp := fun hm => (hfp p.1 hm).2.2.2.2.2 p (List.mem_append_left _ hp) rfl
  refine ⟨I.base.keep p.1 p.2 g1 g2 nst nfp, I.base.free p.1 p.2 g1 g2 nfp, ?_, nst, g5⟩
  show p.1 ≠ ce.locals
  rw [hL]
  exact Nat.ne_of_lt (Heap.lt_size g1)
theorem pin_off {ps : List (Addr × Obj)} (I : L2.Inv (blkP X s H scope ce fp) ps σ' H' s') : L2.Inv (X.blk s H scope ce fp) ps σ' H' s' :=
  ⟨ok_pn (pn := []) I.ok, I.os, I.bare, I.base, I.loc, I.cell, I.free, I.freeC, fun p hp => I.pin p (List.mem_append_right _ (by simpa using hp)), I.hok, I.len⟩
theorem hot_blk (h : L2H.HotC X) : L2H.HotC (blkP X s H scope ce fp) := h
/-- the walk of a comprehension while an exception is handled -/
theorem lc_hot {Q : VK} {elt tg iter : Expr} {ifs : List Expr} {own : List (Str × Nat)} {pos pos' : Pos} {wi : TI} {g : TG} {tt : TT} {te : TE} {use : Option (Value → Sem Unit)} {Qf : Value → Shared → Prop}
    (hot : L2H.HotC X) (hN : X.N.Nodup) (I : L2.Inv X pins σ H s) (hi : L2H.PIH X tg iter wi) (ok : BlkOk X.N X.env.scope scope own)
    (hg : ∀ (s : Shared) (H : Hp) (C : Addr) (cl : List (Str × Addr)) (fp : List Addr), PG (X.blk s H scope (compEnvC scope cl C X.env) fp) tg g) (ht : ∀ (s : Shared) (H : Hp) (C : Addr) (cl : List (Str × Addr)) (fp : List Addr), PTs (X.blk s H scope (compEnvC scope cl C X.env) fp) ifs tt)
    (he : ∀ (s : Shared) (H : Hp) (C : Addr) (cl : List (Str × Addr)) (fp : List Addr), PE (X.blk s H scope (compEnvC scope cl C X.env) fp) elt te) (hs : ∀ x, foldedSetIterable iter X.env x = pure x)
    (h : tLc wi g tt te (own.map (·.2)) σ H Q)
    (fin : ∀ D C s' m H', L2.Inv X pins σ H' s' → Q (.ref D) H' → s'.heap.Ns C m → FpOk X pins H' C → compPost (model X.prog X.w) X.A X.xe use Qf (.ref D) C (.ok .next) s') :
    wpAny (model X.prog X.w) X.A (comprehension (.ListComp elt [⟨tg, iter, ifs, 0⟩] scope pos) scope X.env pos' (newList []) false (eval iter X.env) use) Qf X.xe s := by
  refine wpAny_comprehension_free (use := use) rfl hs (closure_ok fun y hy e => (ok.free y hy e).elim (fun k => I.ok.has _ (.inl k)) fun k => I.ok.has _ (.inr k)) ok.kind (fun y hy e => by rw [ok.uniq y hy, e])
    (thn (hi.run pins s σ H _ I h) fun xv s1 hx => thn hx fun itv s2 h2 => ?_)
  obtain ⟨it, fp, tn, J, H2, rfl, I2, T, st2, f2, q⟩ := h2
  refine wpAny_newObj_type (newEnv_comp ?_) (by show 0 ≤ sizeLine; decide)
  generalize hD : s2.heap.objs.size = D
  have hDn : H2 D = none := I2.hok.fresh (Nat.le_of_eq hD)
  obtain ⟨W, ⟨m0, w0⟩, turn⟩ := q D hDn
  obtain ⟨s3, hs3⟩ : ∃ s3 : Shared, s3 = { s2 with heap := s2.heap.push { cls := .type "list", data := .seq ([] : List Value).toArray } } := ⟨_, rfl⟩
  have h3 : s3.heap = s2.heap.push { cls := .type "list", data := .seq ([] : List Value).toArray } := by rw [hs3]
  have I3 : L2.Inv X pins σ (upd H2 D (.lst [])) s3 := by
    rw [hs3]
    refine I2.laid (t' := s2.toks) (fun b o e => Heap.get?_push_of_some _ e) (Nat.le_of_eq hD) ⟨Nat.zero_le _, [], 0, .nil, ?_⟩
    rw [← hD]
    exact Heap.get?_push_size _ rfl
  have f3 : ∀ b ∈ fp, FpOk X pins (upd H2 D (.lst [])) b ∧ b < s3.heap.objs.size := fun b hb => by
    obtain ⟨o, e, _⟩ := T.obj _ _ st2 b hb
    have hlt := Heap.lt_size e
    refine ⟨⟨?_, (f2 b hb).2⟩, by rw [h3, Heap.size_push]; exact Nat.lt_succ_of_lt hlt⟩
    rw [upd_ne (by rw [← hD]; exact Nat.ne_of_lt hlt)]
    exact (f2 b hb).1
  have I4 := block_start I3 ok hN f3
  have pg := hg s3 (upd H2 D (.lst [])) s3.heap.objs.size (cellsFrom (s3.heap.objs.size + 1) scope.names (cloFrom X.env.cells scope.names [])) fp
  have pt := ht s3 (upd H2 D (.lst [])) s3.heap.objs.size (cellsFrom (s3.heap.objs.size + 1) scope.names (cloFrom X.env.cells scope.names [])) fp
  have pe := he s3 (upd H2 D (.lst [])) s3.heap.objs.size (cellsFrom (s3.heap.objs.size + 1) scope.names (cloFrom X.env.cells scope.names [])) fp
  rw [← hs3]
  show codeAny _ _ (.compStart (.ListComp elt [⟨tg, iter, ifs, 0⟩] scope pos) 0 (.ref it) (.ref D) (compEnvC scope (cellsFrom (s3.heap.objs.size + 1) scope.names (cloFrom X.env.cells scope.names [])) s3.heap.objs.size X.env)) (compPost (model X.prog X.w) X.A X.xe use Qf (.ref D) s3.heap.objs.size) { s3 with heap := pushCells (s3.heap.push { cls := .type "dict", data := .dict #[] }) scope.names }
  generalize hce : compEnvC scope (cellsFrom (s3.heap.objs.size + 1) scope.names (cloFrom X.env.cells scope.names [])) s3.heap.objs.size X.env = ce at I4 pg pt pe ⊢
  have cL : ce.locals = s3.heap.objs.size := by subst hce; rfl
  have nfp : ∀ b ∈ fp, (upd H2 D (.lst [])) b = none := fun b hb => (f3 b hb).1.1
  generalize hH3 : upd H2 D (.lst []) = H3 at I3 I4 pg pt pe w0 nfp f3
  have st4 : tn 0 (pushCells (s3.heap.push { cls := .type "dict", data := .dict #[] }) scope.names) := T.keep _ _ _ st2 fun b _ o e => pushCells_keeps _ _ _ _ (Heap.get?_push_of_some _ (by rw [h3]; exact Heap.get?_push_of_some _ e))
  generalize hs4 : ({ s3 with heap := pushCells (s3.heap.push { cls := .type "dict", data := .dict #[] }) scope.names } : Shared) = s4 at I4 ⊢
  have st4' : tn 0 s4.heap := by rw [← hs4]; exact st4
  -- the block's state, the pins within
  have pinned : ∀ {σ' : L2.St} {H' : Hp} {s' : Shared}, L2.Inv (X.blk s3 H3 scope ce fp) [] σ' H' s' → L2.Inv (blkP X s3 H3 scope ce fp) [] σ' H' s' := fun {σ' H' s'} J => pin_on I3 (fun b hb => (f3 b hb).1) cL J
  have stat : ∀ {σ' : L2.St} {H' : Hp} {s' : Shared}, L2.Inv (blkP X s3 H3 scope ce fp) [] σ' H' s' → (∀ b ∈ fp, H' b = none) → ∀ b ∈ fp, FpOk (blkP X s3 H3 scope ce fp) [] H' b := fun {σ' H' s'} I' hn b hb =>
    ⟨hn b hb, (I'.ok.exf b hb).1, I'.ok.exfs b hb, .inl hb, fun x c e => (I'.ok.exf b hb).2 x c e, fun p hp => (f3 b hb).1.2.2.2.2.2 p (List.mem_append_left _ (by simpa using hp))⟩
  have statB : ∀ {σ' : L2.St} {H' : Hp} {s' : Shared}, L2.Inv (X.blk s3 H3 scope ce fp) [] σ' H' s' → (∀ b ∈ fp, H' b = none) → ∀ b ∈ fp, FpOk (X.blk s3 H3 scope ce fp) [] H' b := fun {σ' H' s'} I' hn b hb =>
    ⟨hn b hb, (I'.ok.exf b hb).1, I'.ok.exfs b hb, .inl hb, fun x c e => (I'.ok.exf b hb).2 x c e, fun p hp => absurd (show p ∈ ([] : List (Addr × Obj)) ++ [] from hp) (by simp)⟩
  have hotB : L2H.HotC (blkP X s3 H3 scope ce fp) := hot_blk hot
  suffices loop : codeAny (model X.prog X.w) X.A (.compLoop (.ListComp elt [⟨tg, iter, ifs, 0⟩] scope pos) 0 (.ref it) (.ref D) ce) (compPost (model X.prog X.w) X.A X.xe use Qf (.ref D) s3.heap.objs.size) s4 from codeAny_compStart_list loop (T.self X.A 0 _ _ _ st4' loop)
  refine compLoop_any (fun n s' => ∃ i H', L2.Inv (X.blk s3 H3 scope ce fp) [] (wipe σ (own.map (·.2))) H' s' ∧ tn i s'.heap ∧ (∀ b ∈ fp, H' b = none) ∧ W i n H') ?_ m0 ⟨0, H3, I4, st4', nfp, w0⟩
  rintro n s5 ⟨i, H5, I5, st5, n5, w5⟩
  rcases turn i n H5 w5 with ⟨stop, qq⟩ | ⟨go, Nx, hNx, step⟩
  · refine thnF (T.done (blkP X s3 H3 scope ce fp) rfl rfl rfl hotB i [] s5 _ H5 (fun _ _ => False) (pinned I5) (stat (pinned I5) n5) st5 stop) fun r s6 ⟨hr, I6'⟩ => ?_
    subst hr
    have I6 := pin_off I6'
    have I7 : L2.Inv X pins σ H5 s6 := I3.call' (ch := fp) I6.os I6.base I6.hok I6.bare fun b hb => ⟨(f3 b hb).1.2.2.2.1, (f3 b hb).1.2.1, (f3 b hb).1.2.2.2.2.1, (f3 b hb).1.2.2.2.2.2⟩
    have nC : H5 s3.heap.objs.size = none := by
      have z : H5 ce.locals = none := I6.free
      rw [cL] at z
      exact z
    obtain ⟨m, hn, _⟩ := I6.loc
    have hn : s6.heap.Ns ce.locals m := hn
    rw [cL] at hn
    exact fin D s3.heap.objs.size s6 m H5 I7 qq hn (I3.fpOk (Nat.le_refl _) nC)
  · refine thnF (T.item (blkP X s3 H3 scope ce fp) rfl rfl rfl hotB i [] s5 _ H5 (fun _ _ => False) (pinned I5) (stat (pinned I5) n5) st5 go) fun r s6 ⟨u, hr, h6⟩ => ?_
    subst hr
    refine thnF h6 fun _ s7 ⟨x, H7, I7', r7, y7, st7, n7⟩ => ?_
    have I7 := pin_off I7'
    have I8' := I7.pinned (statB I7 n7) (T.obj _ _ st7)
    refine thnF (pg.run _ s7 _ H7 x u _ I8' r7 (step x H7 y7)) fun _ s8 ⟨σ8, H8, I8, hw8, q8⟩ => ?_
    refine thnF (pt.run _ s8 σ8 H8 _ I8 q8) fun b s9 ⟨H9, I9, q9⟩ => ?_
    have next : ∀ {s' : Shared} {H' : Hp}, L2.Inv (X.blk s3 H3 scope ce fp) ([] ++ pinsAt fp s7.heap) σ8 H' s' → Nx H' → ∃ m, m < n ∧ ∃ i H', L2.Inv (X.blk s3 H3 scope ce fp) [] (wipe σ (own.map (·.2))) H' s' ∧ tn i s'.heap ∧ (∀ b ∈ fp, H' b = none) ∧ W i m H' := fun {s' H'} I' nx => by
      obtain ⟨m', hm, w'⟩ := hNx H' nx
      have at' : ∀ b ∈ fp, ∀ o, s7.heap.get? b = some o → s'.heap.get? b = some o ∧ H' b = none := fun b hb o e =>
        let z := I'.pin (b, o) (List.mem_append_right _ (List.mem_append_right _ (mem_pinsAt hb e)))
        ⟨z.1, z.2.1⟩
      refine ⟨m', hm, i + 1, H', (I'.unpinned (pins := [])).weak (by rw [← hw8, wipe_length]) (fun j v e => ?_), T.keep _ _ _ st7 fun b hb o e => (at' b hb o e).1, fun b hb => ?_, w'⟩
      · rw [← hw8] at e
        exact (wipe_some e).1
      · obtain ⟨o, e, _⟩ := T.obj _ _ st7 b hb
        exact (at' b hb o e).2
    cases b with
    | false => exact next I9 (by simpa using q9)
    | true =>
      simp only [if_true] at q9 ⊢
      refine thnF (pe.run _ s9 σ8 H9 _ I9 q9) fun z s10 ⟨yv, H10, I10, r10, acc, hD10, hz10, nx⟩ => ?_
      exact app_ok (X := X.blk s3 H3 scope ce fp) I10 hD10 hz10 r10 fun s11 I11 => next I11 nx
theorem pe_lcH {elt tg iter : Expr} {ifs : List Expr} {own : List (Str × Nat)} {pos : Pos} {wi : TI} {g : TG} {tt : TT} {te : TE} (hot : L2H.HotC X) (hN : X.N.Nodup) (hi : L2H.PIH X tg iter wi) (ok : BlkOk X.N X.env.scope scope own)
    (hg : ∀ (s : Shared) (H : Hp) (C : Addr) (cl : List (Str × Addr)) (fp : List Addr), PG (X.blk s H scope (compEnvC scope cl C X.env) fp) tg g) (ht : ∀ (s : Shared) (H : Hp) (C : Addr) (cl : List (Str × Addr)) (fp : List Addr), PTs (X.blk s H scope (compEnvC scope cl C X.env) fp) ifs tt)
    (he : ∀ (s : Shared) (H : Hp) (C : Addr) (cl : List (Str × Addr)) (fp : List Addr), PE (X.blk s H scope (compEnvC scope cl C X.env) fp) elt te) (hs : ∀ x, foldedSetIterable iter X.env x = pure x := by intro _; rfl) :
    PE X (.ListComp elt [⟨tg, iter, ifs, 0⟩] scope pos) (tLc wi g tt te (own.map (·.2))) := by
  refine ⟨fun pins s σ H Q I h => ?_⟩
  rw [eval_ListComp]
  refine lc_hot hot hN I hi ok hg ht he hs h fun D C s' m H' I' q hn f => ⟨m, hn, fun h'' sb => ?_⟩
  obtain ⟨f0, f1, f2, f3, f4, f5⟩ := f
  exact ⟨.ref D, H', I'.turned (t' := s'.toks) (fun b o hb e => (sb.2 b hb).trans e) f0 f1 f3 f4 f5, rfl, q⟩
theorem ps_setLcH {i : Nat} {y : Str} {py : Pos} {elt tg iter : Expr} {ifs : List Expr} {own : List (Str × Nat)} {pos spos : Pos} {wi : TI} {g : TG} {tt : TT} {te : TE} (hot : L2H.HotC X) (hN : X.N.Nodup) (hy : X.N[i]? = some y) (hyl : X.env.scope.names.lookup y = some .local)
    (hsw : swapsWith (.ListComp elt [⟨tg, iter, ifs, 0⟩] scope pos) (some (.Name y py)) spos.line X.env = pure true) (hi : L2H.PIH X tg iter wi) (ok : BlkOk X.N X.env.scope scope own)
    (hg : ∀ (s : Shared) (H : Hp) (C : Addr) (cl : List (Str × Addr)) (fp : List Addr), PG (X.blk s H scope (compEnvC scope cl C X.env) fp) tg g) (ht : ∀ (s : Shared) (H : Hp) (C : Addr) (cl : List (Str × Addr)) (fp : List Addr), PTs (X.blk s H scope (compEnvC scope cl C X.env) fp) ifs tt)
    (he : ∀ (s : Shared) (H : Hp) (C : Addr) (cl : List (Str × Addr)) (fp : List Addr), PE (X.blk s H scope (compEnvC scope cl C X.env) fp) elt te) (hs : ∀ x, foldedSetIterable iter X.env x = pure x := by intro _; rfl) :
    PS X (.Assign [.Name y py] (.ListComp elt [⟨tg, iter, ifs, 0⟩] scope pos) spos) (tAsg (tLc wi g tt te (own.map (·.2))) (gName i)) := by
  refine ⟨fun pins s σ H D I h => ?_⟩
  rw [exec_Assign_Name_used _ _ _ _ hsw]
  refine wpAny_bind (wpAny_standAt (wpAny_bind ?_))
  show wpAny _ X.A (do let _ ← comprehension (.ListComp elt [⟨tg, iter, ifs, 0⟩] scope pos) scope X.env (firstIterPos [⟨tg, iter, ifs, 0⟩] pos) (newList []) false (eval iter X.env) (some (assign (.Name y py) X.env))) _ _ s
  have h : tLc wi g tt te (own.map (·.2)) σ H (fun x H1 => gName i x σ H1 D.nx) := h
  refine wpAny_bind (thn (lc_hot (Qf := fun _ s' => SP X pins D .next s') hot hN I hi ok hg ht he hs h fun L C s' m H' I' q hn f => ?_) fun _ s' hq => wpAny_pure (wpAny_pure hq))
  show wpAny _ _ (assign (.Name y py) X.env (.ref L)) _ _ _
  refine wpAny_assign_Name (store_ok2 (v := V.ref L) I' hN hy (.inl hyl) rfl (fun s2 I2 ⟨a, sb, ha⟩ => ?_) (.inr hyl))
  obtain ⟨f0, f1, f2, f3, f4, f5⟩ := f
  have haC : C ≠ a := by
    rcases ha with z | z
    · rw [z]; exact f1
    · exact fun e => f4 y a z e.symm
  exact ⟨m, hn.sameBut sb haC, fun h3 sb3 => ⟨_, H', I2.turned (t' := s2.toks) (fun b o hb e => (sb3.2 b hb).trans e) f0 f1 f3 f4 f5, q⟩⟩
/-- an iterable in a suite -/
def QIH (X : Cx) (W : WX) (tg e : Expr) (w : WI) : Prop := L2H.PIH X tg e (cI X.K W w)
theorem pih_imp {X : Cx} {tg e : Expr} {w w' : TI} (h : L2H.PIH X tg e w') (k : ∀ σ H R, w σ H R → w' σ H R) : L2H.PIH X tg e w := ⟨fun pins s σ H R I q => h.run pins s σ H R I (k σ H R q)⟩
end
section
variable {X : Cx} {W : WX} {elt tg iter e : Expr} {ifs : List Expr} {scope : Scope} {own : List (Str × Nat)} {pos : Pos} {wi : WI} {g : WG} {tt : WT} {te : WE} {ws : WA}
theorem qi_range1H (hi : L2H.PIH X tg e (iRng1 (cA X.K W ws))) : QIH X W tg e (iRg1 ws) := pih_imp hi fun σ H R ⟨p, σd, l, Rd, Ed, hH, R0, hw, k, lk⟩ => by
  subst hH
  refine cA_ok R0 hw lk fun xs l1 vs p1 e1 R1 r1 q1 => ?_
  unfold kRg1 at q1
  split at q1
  · obtain ⟨v, rfl, r⟩ := r1.one
    cases r
    exact ⟨_, rfl, q1.1, q1.2.1, k _ l1 _ p1 e1 R1 it_range q1.2.2⟩
  · exact q1.elim
theorem qe_lcH {f : Fresh} (hot : L2H.HotC X) (hN : X.N.Nodup) (hi : QIH X W tg iter wi) (ok : BlkOk X.N X.env.scope scope own)
    (hg : ∀ (s : Shared) (H : Hp) (C : Addr) (cl : List (Str × Addr)) (fp : List Addr), QGv (X.blk s H scope (compEnvC scope cl C X.env) fp) (own.map (·.2)) tg g) (ht : ∀ (s : Shared) (H : Hp) (C : Addr) (cl : List (Str × Addr)) (fp : List Addr), QTs (X.blk s H scope (compEnvC scope cl C X.env) fp) W0 ifs tt)
    (he : ∀ (s : Shared) (H : Hp) (C : Addr) (cl : List (Str × Addr)) (fp : List Addr), QE (X.blk s H scope (compEnvC scope cl C X.env) fp) W0 elt te) (hs : ∀ x, foldedSetIterable iter X.env x = pure x := by intro _; rfl) :
    QE X W (.ListComp elt [⟨tg, iter, ifs, 0⟩] scope pos) (wLc wi g tt te (own.map (·.2)) f) :=
  PE.imp (pe_lcH (own := own) (g := cGv X.K (own.map fun q : Str × Nat => q.2) g) (tt := cT X.K W0 tt) (te := cE X.K W0 te) hot hN hi ok hg ht he hs) fun σ H Q h => lc_ok h
theorem qs_setLcH {f : Fresh} {i : Nat} {y : Str} {py spos : Pos} (hot : L2H.HotC X) (hN : X.N.Nodup) (hy : X.N[i]? = some y) (hyl : X.env.scope.names.lookup y = some .local)
    (hsw : swapsWith (.ListComp elt [⟨tg, iter, ifs, 0⟩] scope pos) (some (.Name y py)) spos.line X.env = pure true) (hi : QIH X W tg iter wi) (ok : BlkOk X.N X.env.scope scope own)
    (hg : ∀ (s : Shared) (H : Hp) (C : Addr) (cl : List (Str × Addr)) (fp : List Addr), QGv (X.blk s H scope (compEnvC scope cl C X.env) fp) (own.map (·.2)) tg g) (ht : ∀ (s : Shared) (H : Hp) (C : Addr) (cl : List (Str × Addr)) (fp : List Addr), QTs (X.blk s H scope (compEnvC scope cl C X.env) fp) W0 ifs tt)
    (he : ∀ (s : Shared) (H : Hp) (C : Addr) (cl : List (Str × Addr)) (fp : List Addr), QE (X.blk s H scope (compEnvC scope cl C X.env) fp) W0 elt te) (hs : ∀ x, foldedSetIterable iter X.env x = pure x := by intro _; rfl) :
    QS X W (.Assign [.Name y py] (.ListComp elt [⟨tg, iter, ifs, 0⟩] scope pos) spos) (wAsg (wLc wi g tt te (own.map (·.2)) f) (gN i)) :=
  PS.imp (ps_setLcH (own := own) (g := cGv X.K (own.map fun q : Str × Nat => q.2) g) (tt := cT X.K W0 tt) (te := cE X.K W0 te) hot hN hy hyl hsw hi ok hg ht he hs) fun D σ H ⟨p, σd, l, Dd, hH, R, hw, k⟩ => by
    subst hH
    exact lc_ok (X := X) (W := W) (cE_ok R hw k.link fun x l1 v p1 e1 R1 r1 q1 => k.nx p1 _ _ l1 e1 (R1.set r1) q1)
end
end QL
set_option Elab.async false
set_option linter.all false
set_option maxRecDepth 100000
set_option maxHeartbeats 4000000
/-! QE1: sorted of a list of alike data, any number of them. -/
namespace QL
open PySem L2
open PySem.W (AllAlike Sortable EachIs dataLe sorted_data)
/-- sorted(xs): bs the items with their values -/
def rSrtG (K : PySem.W.Frag) : List V → Hp → VK → Prop := fun vs H Q => ∃ (a : Addr) (bs : List (D × V)), vs = [V.ref a] ∧ SqL K H a (bs.map (·.2)) ∧ (∀ b ∈ bs, Dp K H b.2 b.1.py ∧ b.1.py.depth ≤ 60) ∧ AllAlike (bs.map fun b => b.1.py) ∧ Sortable (bs.map fun b => b.1.py) ∧
  ∀ p, H p = none → Q (.ref p) (upd H p (.lst ((bs.mergeSort (dataLe false fun b => b.1.py)).map (·.2))))
theorem each_of {R : Value → D × V → Prop} : ∀ {bs : List (D × V)} {us : List Value}, Vals (bs.map (·.2)) us → (∀ b u, b ∈ bs → RelV b.2 u → R u b) → EachIs R us bs
  | [], _, h, _ => by cases h; exact .nil
  | b :: bs, _, h, k => by
    cases h with
    | cons r t => exact .cons (k _ _ List.mem_cons_self r) (each_of t fun b u m q => k b u (List.mem_cons_of_mem _ m) q)
theorem vals_each : ∀ {bs : List (D × V)} {us : List Value}, EachIs (fun u (b : D × V) => RelV b.2 u) us bs → Vals (bs.map (·.2)) us
  | _, _, .nil => .nil
  | _, _, .cons r t => .cons r (vals_each t)
theorem cr_sortedG {X : Cx} (hu : X.A.units + 64 < cLine) : CallR X (.builtin "sorted") (rSrtG X.K) := by
  intro pins s σ H vs us Q I r h
  obtain ⟨a, bs, rfl, hs, hd, hal, hk, q⟩ := h
  obtain ⟨its, rv, hl, hz⟩ := I.list hs
  obtain ⟨u, rfl, ru⟩ := vals1 r
  obtain rfl : u = Value.ref a := ru
  have hlen : bs.length ≤ sizeLine := by
    have := hz
    rw [List.length_map] at this
    exact this
  have er : EachIs (fun v (b : D × V) => ∃ as, Reads s.heap v b.1.py as) its bs := each_of rv fun b u m r => Dp.reads I _ _ _ (hd b m).1 r
  have e : EachIs (fun v (b : D × V) => RelV b.2 v) its bs := each_of rv fun b u m r => r
  refine sorted_data (enc := fun b : D × V => b.1.py) (R := fun v b => RelV b.2 v) hl.isList e er hal hk hlen (fun b m => ?_) fun out ho eo => ?_
  · have := (hd b m).2
    omega
  · have ro := vals_each eo
    obtain ⟨n, hn⟩ := PyProof.Rows.sortedAll_at s.heap its out.toArray
    refine ⟨.ref (s.heap.objs.size + 1), upd H (s.heap.objs.size + 1) (.lst ((bs.mergeSort (dataLe false fun b => b.1.py)).map (·.2))), I.laid (t' := s.toks) (fun b o e => PyProof.Rows.sortedAll_old e) (Nat.le_succ _) ⟨?_, out, n, ro, hn⟩, rfl, q _ (I.hok.fresh (Nat.le_succ _))⟩
    rw [List.length_map, List.length_mergeSort]
    exact hlen
/-! ### over plain data -/
def leD (a b : D) : Bool := !PySem.W.dataLt b.py a.py
def srtD (xs : List D) : List D := xs.mergeSort leD
def okSrt (xs : List D) : Prop := (∀ x ∈ xs, dOk 60 x) ∧ (∀ x ∈ xs, ∀ y ∈ xs, PySem.W.alike x.py y.py = true) ∧ ((∀ x ∈ xs, ∃ y r, x.py = .tuple (y :: r)) ∨ ∀ x ∈ xs, x.py ≠ .none ∧ ∀ r, x.py ≠ .tuple r)
def bSrt (f : Fresh) (vs : List P) (l : LS) (Q : P → LS → Prop) : Prop := match vs with
  | [x] => match lisOf l x with
    | some xs => okSrt xs ∧ freshL f (srtD xs) l Q
    | none => False
  | _ => False
theorem zip_rds {K : PySem.W.Frag} {p : Pt} : ∀ {xs : List D} {vs : List V}, RDs K p xs vs → (xs.zip vs).map (·.1) = xs ∧ (xs.zip vs).map (·.2) = vs ∧ ∀ b ∈ xs.zip vs, RD K p b.1 b.2
  | _, _, .nil => ⟨rfl, rfl, fun b m => by simp at m⟩
  | _, _, .cons r t => by
    obtain ⟨h1, h2, h3⟩ := zip_rds t
    refine ⟨by simp [h1], by simp [h2], fun b m => ?_⟩
    rcases List.mem_cons.mp m with e | m
    · subst e; exact r
    · exact h3 b m
theorem rds_zip {K : PySem.W.Frag} {p : Pt} : ∀ {bs : List (D × V)}, (∀ b ∈ bs, RD K p b.1 b.2) → RDs K p (bs.map (·.1)) (bs.map (·.2))
  | [], _ => .nil
  | b :: bs, h => .cons (h b List.mem_cons_self) (rds_zip fun c m => h c (List.mem_cons_of_mem _ m))
theorem srt_zip {bs : List (D × V)} : (bs.mergeSort (dataLe false fun b => b.1.py)).map (·.1) = srtD (bs.map (·.1)) := by
  unfold srtD
  exact List.map_mergeSort (fun a _ b _ => by rw [PySem.W.dataLe_eq]; rfl)
theorem ref_srt {K : PySem.W.Frag} {f : Fresh} : RefCall K (rSrtG K) (bSrt f) := fun p l xs vs Qd Q w ce rx h k => by
  unfold bSrt at h
  split at h
  · obtain ⟨v, rfl, r⟩ := rx.one
    split at h
    · rename_i ys hy
      obtain ⟨⟨o1, o2, o3⟩, q⟩ := h
      obtain ⟨a, us, rfl, hs, hr⟩ := lisOf_ok ce r hy
      obtain ⟨z1, z2, z3⟩ := zip_rds hr
      have mm : ∀ b ∈ ys.zip us, b.1 ∈ ys := fun b m => (List.of_mem_zip m).1
      refine ⟨a, ys.zip us, rfl, by rw [z2]; exact hs, fun b m => ⟨RD.dp (z3 b m) (o1 _ (mm b m)), (dOk_sh _ _ (o1 _ (mm b m))).2⟩, ?_, ?_, ?_⟩
      · intro d hd d' hd'
        obtain ⟨b, m, rfl⟩ := List.mem_map.mp hd
        obtain ⟨b', m', rfl⟩ := List.mem_map.mp hd'
        exact o2 _ (mm b m) _ (mm b' m')
      · rcases o3 with o3 | o3
        · exact .inl fun d hd => by
            obtain ⟨b, m, rfl⟩ := List.mem_map.mp hd
            exact o3 _ (mm b m)
        · exact .inr fun d hd => by
            obtain ⟨b, m, rfl⟩ := List.mem_map.mp hd
            exact o3 _ (mm b m)
      · have e1 := srt_zip (bs := ys.zip us)
        rw [z1] at e1
        have hr2 : RDs K p (srtD ys) (((ys.zip us).mergeSort (dataLe false fun b => b.1.py)).map (·.2)) := by
          rw [← e1]
          exact rds_zip fun b m => z3 b (List.mem_mergeSort.mp m)
        exact k.fresh w ce hr2 f q
    · exact h.elim
  · exact h.elim
end QL
set_option Elab.async false
set_option linter.all false
set_option maxRecDepth 100000
set_option maxHeartbeats 4000000
/-! QE2: list.count of data, xs[::-1] of a list, list(dict), zip. -/
namespace L2
open PySem PySem.Spec PyProof.Rows
section
variable {X : Cx}
/-- l.count(x) -/
def rCountD (K : PySem.W.Frag) : V → List V → Hp → VK → Prop := fun x xs H Q => ∃ (a : Addr) (y : V) (d : PyData) (ds : List PyData), x = V.ref a ∧ xs = [y] ∧ Dp K H (V.ref a) (.list ds) ∧ Dp K H y d ∧
  SeqAt.shaped (.list ds) = true ∧ SeqAt.shaped d = true ∧ Q (.int (ds.countP fun z => PyData.eqv z d : Nat)) H
theorem mt_countD (hu : X.A.units + 65 < cLine) : MtR X "list.count" (rCountD X.K) := by
  intro pins s σ H x xs v us Q I rx rxs h
  obtain ⟨a, y, d, ds, rfl, rfl, hl, hy, sl, sd, q⟩ := h
  cases rx
  cases rxs with
  | cons ry rt =>
    rename_i uy ut
    cases rt
    obtain ⟨bs, r1⟩ := Dp.reads I d y uy hy ry
    have hxs : PyData.canLayAll0 ds = true := SeqAt.canLay_of_shaped sl
    have hroom : X.A.units + 1 + min (PyData.depthAll ds) d.depth < cLine := room_in_shaped sd hu
    cases hl with
    | lst hs ha =>
      obtain ⟨its, rv, ⟨⟨cls, dd, data, sls⟩, n, ho, hc, hdn, hdt⟩, hlen⟩ := I.list hs
      simp only at hc hdt
      subst hc hdt
      obtain ⟨as, h4⟩ := Dp.readsAll I ds _ its ha rv
      have hmap : its.map (SeqAt.readOf s.heap) = ds := SeqAt.readsAll_map ds its as hxs h4
      refine call_meets PySem.F.slot_list_count ⟨_, ho, rfl⟩ PySem.F.entry_list_count (PySem.F.args_list_count_2 _ _)
        (SeqAt.list_countAt a its.toArray n dd sls uy (fun u => PyData.eqv (SeqAt.readOf s.heap u) d)) ⟨ho, SeqAt.items_eqAt (vs := its.toArray) (show ReadsAll s.heap its.toArray.toList ds as from h4) r1 hxs (SeqAt.canLay_of_shaped sd) hroom, ?_⟩
      have ec : its.toArray.toList.countP (fun u => PyData.eqv (SeqAt.readOf s.heap u) d) = ds.countP fun z => PyData.eqv z d := by
        rw [← hmap, List.countP_map]
        rfl
      rw [ec]
      exact ⟨.int (ds.countP fun z => PyData.eqv z d : Nat), H, I.tok _, ⟨_, rfl⟩, q⟩
end
end L2
namespace HT
open PySem PySem.Spec PyProof.Rows PySem.W
section
variable {prog : Program} {w : World} {A : Around} {E : Value → Shared → Prop} {s : Shared}
theorem fm_congr {α β : Type} {f g : α → Option β} : ∀ {l : List α}, (∀ x ∈ l, f x = g x) → l.filterMap f = l.filterMap g
  | [], _ => rfl
  | x :: l, h => by
    rw [List.filterMap_cons, List.filterMap_cons, h x List.mem_cons_self, fm_congr fun y m => h y (List.mem_cons_of_mem _ m)]
theorem places_rev (n : Nat) : Builtin.Slice.slicePlaces ((n : Int) - 1) (-1) (-1) = n := by
  unfold Builtin.Slice.slicePlaces
  have h1 : ¬ ((-1 : Int) > 0) := by omega
  simp only [h1, if_false]
  have e : ((n : Int) - 1 - -1 - 1) / (- -1) = (n : Int) - 1 := by
    rw [show (- -1 : Int) = 1 by decide, Int.ediv_one]
    omega
  rw [e]
  split <;> omega
theorem sliceApplied_rev {sl : Addr} {vl vu vs : Value} {n : Nat} {Q : Int × Int × Nat → Shared → Prop} (hs : s.heap.IsSliceOf sl vl vu vs) (pl : IsPart vl none) (pu : IsPart vu none) (ps : IsPart vs (some (-1)))
    (h : Q ((n : Int) - 1, -1, n) s) : wpAny (model prog w) A (Builtin.Slice.sliceApplied (.ref sl) (pure (n : Int))) Q E s := by
  obtain ⟨os, hos, hcs, hds⟩ := id hs
  unfold Builtin.Slice.sliceApplied Builtin.Slice.sliceFields
  refine wpAny_bind (wpAny_bind (wpAny_field hos hds (x := vl) rfl (wpAny_bind (wpAny_field hos hds (x := vu) rfl (wpAny_bind (wpAny_field hos hds (x := vs) rfl (wpAny_pure ?_)))))))
  refine wpAny_bind (slicePart_ ps ?_)
  show wpAny _ _ (if ((-1 : Int) == 0) = true then _ else _) _ _ s
  rw [if_neg (by decide)]
  refine wpAny_bind (slicePart_ pl (wpAny_bind (slicePart_ pu (wpAny_bind (wpAny_pure ?_)))))
  show wpAny _ _ (pure ((n : Int) - 1, (-1 : Int), Builtin.Slice.slicePlaces ((n : Int) - 1) (-1) (-1))) _ _ s
  rw [places_rev]
  exact wpAny_pure h
theorem pick_rev (xs : Array Value) : ((List.range xs.size).filterMap fun (m : Nat) => xs[(((xs.size : Nat) : Int) - 1 + (m : Int) * (-1)).toNat]?).toArray = xs.toList.reverse.toArray := by
  have e : ((List.range xs.size).filterMap fun (m : Nat) => xs[(((xs.size : Nat) : Int) - 1 + (m : Int) * (-1)).toNat]?) = ((List.range xs.size).map fun k => xs.size - 1 - k).filterMap (xs[·]?) := by
    rw [List.filterMap_map]
    refine fm_congr fun m hm => ?_
    have hm := List.mem_range.mp hm
    show xs[(((xs.size : Nat) : Int) - 1 + (m : Int) * (-1)).toNat]? = xs[xs.size - 1 - m]?
    congr 1
    omega
  rw [e, krv_range, List.filterMap_reverse, krv_all]
theorem getItem_tuple_rev {t sl : Addr} {items : Array Value} {vl vu vs : Value} {Q : Value → Shared → Prop} (ht : IsTup s.heap t items) (hs : s.heap.IsSliceOf sl vl vu vs) (pl : IsPart vl none) (pu : IsPart vu none) (ps : IsPart vs (some (-1)))
    (h : Q (.ref s.heap.objs.size) { s with heap := s.heap.push { cls := .type "tuple", data := .seq items.toList.reverse.toArray } })
    (hsz : items.size ≤ sizeLine) : wpAny (model prog w) A (getItem (.ref t) (.ref sl)) Q E s := by
  have htake : sizeOk (.seq items.toList.reverse.toArray) := by
    show items.toList.reverse.toArray.size ≤ sizeLine
    rw [List.size_toArray, List.length_reverse, Array.length_toList]
    exact hsz
  obtain ⟨os, hos, hcs, hds⟩ := id hs
  have hTs : s.TypeIs (.ref sl) "slice" := ⟨os, hos, hcs⟩
  unfold getItem
  try with_reducible refine wpAny_holding ?_
  first | refine wpAny_bind (wpAny_pure ?_) | skip
  refine wpAny_bind (wpAny_sequenceKey ht.typeIs (by decide) ?_)
  refine wpAny_bind (wpAny_callSpecial?_slot (name := Str.ofString "__getitem__") ht.typeIs PyProof.Rows.slot_tuple_getitem
    (wpAny_call_entry PyProof.Rows.slot_tuple_getitem ht.typeIs entry_tuple_getitem ?_ (args_tuple_getitem _ _)))
  show wpAny _ _ (Builtin.Tuple.tupleItemsOf (.ref t) >>= _) _ _ s
  refine wpAny_bind (tupleItemsOf_ ht ?_)
  refine wpAny_bind (wpAny_typeOf hTs ?_)
  rw [if_pos (by decide)]
  refine wpAny_bind (sliceApplied_rev hs pl pu ps ?_)
  have hno : ¬ (((((items.size : Nat) : Int) - 1) == 0 && (-1 : Int) == 1 && items.size == items.size) = true) := by simp
  show wpAny _ _ (if ((((items.size : Nat) : Int) - 1) == 0 && (-1 : Int) == 1 && items.size == items.size) = true then _ else _) _ _ s
  rw [if_neg hno, pick_rev]
  first
    | exact wpAny_bind (m := Builtin.Tuple.tupleExact _) (wpAny_newObj_type (wpAny_pure ⟨_, rfl, wpAny_pure h⟩) htake)
    | exact wpAny_bind (m := Builtin.Tuple.tupleExact _) (wpAny_newObj_type (wpAny_bind (wpAny_pure (wpAny_pure ⟨_, rfl, wpAny_pure h⟩))) htake)
    | exact wpAny_bind (wpAny_bind (m := Builtin.Tuple.tupleExact _) (wpAny_newObj_type (wpAny_pure (wpAny_pure ⟨_, rfl, wpAny_pure h⟩)) htake))
    | exact wpAny_bind (wpAny_bind (m := Builtin.Tuple.tupleExact _) (wpAny_newObj_type (wpAny_pure ⟨_, rfl, wpAny_pure h⟩) htake))
end
end HT
namespace L2
open PySem PySem.Spec PyProof.Rows
section
variable {X : Cx}
/-- t[::-1], t a tuple -/
def tRevT (K : PySem.W.Frag) (te : TE) : TE := fun σ H Q => te σ H fun x H1 => ∃ a xs, x = .ref a ∧ SqT K H1 a xs ∧ ∀ p, H1 p = none → Q (.ref p) (upd H1 p (.tup xs.reverse))
theorem pe_revT {e : Expr} {te : TE} {k : Nat} {p1 p2 p3 pos : Pos} (he : PE X e te) : PE X (.Subscript e (.Slice none none (some (.UnaryOp .USub (.Constant (.int 1) k p1) p2)) p3) pos) (tRevT X.K te) := by
  refine ⟨fun pins s σ H Q I h => ?_⟩
  refine Subscript_ (thn (he.run pins s σ H _ I h) fun v s1 ⟨x, H1, I1, r1, q1⟩ => ?_)
  obtain ⟨a, xs, ex, hx, q⟩ := q1
  subst ex
  cases r1
  have hst : PO X (some (.UnaryOp .USub (.Constant (.int 1) k p1) p2)) (tPart (tUn (rU fun i => .int (-i)) (tC (.int 1)))) := po_some (pe_un un_neg pe_int)
  refine wpAny_Slice (thn (po_none.run pins s1 σ H1 (fun o H2 => o = none ∧ H2 = H1) I1 ⟨rfl, rfl⟩) fun vl s2 ⟨l, H2, I2, pl, el, e2⟩ => ?_)
  subst el e2
  refine thn (po_none.run pins s2 σ H2 (fun o H3 => o = none ∧ H3 = H2) I2 ⟨rfl, rfl⟩) fun vu s3 ⟨u, H3, I3, pu, eu, e3⟩ => ?_
  subst eu e3
  refine thn (hst.run pins s3 σ H3 (fun o H4 => o = some (-1) ∧ H4 = H3) I3 ⟨1, rfl, -1, rfl, rfl, rfl⟩) fun vs s4 ⟨o, H4, I4, ps, eo, e4⟩ => ?_
  subst eo e4
  have I5 : Inv X pins σ H4 { s4 with heap := s4.heap.push { cls := .type "slice", data := .fields #[vl, vu, vs] } } := I4.kept (t' := s4.toks) fun b ob q => Heap.get?_push_of_some _ q
  obtain ⟨its, r, ht, hz⟩ := I5.tuple hx
  have hlen := r.length
  show wpAny (model X.prog X.w) X.A (subscriptTail e (.Slice none none (some (.UnaryOp .USub (.Constant (.int 1) k p1) p2)) p3) (.ref a) (.ref s4.heap.objs.size)) (EP X pins σ Q) X.xe { s4 with heap := s4.heap.push { cls := .type "slice", data := .fields #[vl, vu, vs] } }
  refine tail_any (ops := [.ref a, .ref s4.heap.objs.size]) ht.typeIs (PyProof.Rows.slot_tuple_getitem.lookup) ?_ (by with_unfolding_all rfl)
  refine HT.getItem_tuple_rev ht (Heap.IsSliceOf.new _ vl vu vs) pl pu ps ?_ (by rw [List.size_toArray]; omega)
  refine ⟨.ref _, _, I5.laid (t' := s4.toks) (o := .tup xs.reverse) (fun b ob q => Heap.get?_push_of_some _ q) (Nat.le_refl _) ?_, rfl, q _ (I5.hok.fresh (Nat.le_refl _))⟩
  exact ⟨by rw [List.length_reverse]; exact hz, _, r.reverse, IsTup.new _ _⟩
end
end L2
namespace QL
open PySem L2
/-- l.count(x) over plain data -/
def mCount (x : P) (xs : List P) (l : LS) (Q : P → LS → Prop) : Prop := match snap l x, xs with
  | some (.lst ys), [y] => match snap l y with
    | some d => dOk 60 (.lst ys) ∧ dOk 60 d ∧ Q (.d (.int (ys.countP fun z => D.eqv z d : Nat))) l
    | none => False
  | _, _ => False
theorem pys_map : ∀ ys : List D, D.pys ys = ys.map D.py
  | [] => rfl
  | y :: ys => by rw [D.pys, pys_map ys]; rfl
theorem ref_count {K : PySem.W.Frag} : RefMt K (rCountD K) mCount := fun p l x vx xs vs Qd Q w ce rx rxs h k => by
  unfold mCount at h
  split at h
  · rename_i ys y hx
    split at h
    · rename_i d hd
      obtain ⟨o1, o2, q⟩ := h
      obtain ⟨v, rfl, ry⟩ := rxs.one
      have d1 := snap_ok ce rx hx o1
      have d2 := snap_ok ce ry hd o2
      have d1' : Dp K p.H vx (.list (D.pys ys)) := d1
      cases d1' with
      | lst hs ha =>
        refine ⟨_, _, d.py, D.pys ys, rfl, rfl, .lst hs ha, d2, dOk_shaped o1, dOk_shaped o2, ?_⟩
        have e : (D.pys ys).countP (fun z => PyData.eqv z d.py) = ys.countP fun z => D.eqv z d := by
          rw [pys_map, List.countP_map]
          rfl
        rw [e]
        exact k.same w ce (d := .d _) (RD.int _) q
    · exact h.elim
  · exact h.elim
section
variable {X : Cx} {W : WX} {we : WE} {e : Expr}
/-! ### xs[::-1] -/
def kRevL (f : Fresh) (Q : P → LS → Prop) (x : P) (l : LS) : Prop := match lisOf l x with
  | some xs => freshL f xs.reverse l Q
  | none => False
def wRevL (f : Fresh) (we : WE) (σ : SS) (l : LS) (Q : P → LS → Prop) (E : EK) : Prop := we σ l (kRevL f Q) E
theorem qe_revL {f : Fresh} {k : Nat} {p1 p2 p3 pos : Pos} (he : QE X W e we) : QE X W (.Subscript e (.Slice none none (some (.UnaryOp .USub (.Constant (.int 1) k p1) p2)) p3) pos) (wRevL f we) :=
  PE.imp (pe_revL he) fun σ H Q ⟨p, σd, l, Qd, Ed, hH, R, hw, kk, lk⟩ => by
    subst hH
    refine cE_ok R hw lk fun x l1 v p1 e1 R1 r1 q => ?_
    unfold kRevL at q
    split at q
    · rename_i xs hx
      obtain ⟨a, us, rfl, hs, hr⟩ := lisOf_ok R1.ce r1 hx
      refine ⟨a, us, rfl, hs, ?_⟩
      exact (show After X.K p1 _ _ from fun d l' v' p' e' w' c' r' q' => kk d l' v' p' (e1.trans e') (R1.ext e' w' c') r' q').fresh R1.wf R1.ce hr.reverse f q
    · exact q.elim
def kRevT (Q : P → LS → Prop) (x : P) (l : LS) : Prop := match x with
  | .d (.tup xs) => Q (.d (.tup xs.reverse)) l
  | _ => False
def wRevT (we : WE) (σ : SS) (l : LS) (Q : P → LS → Prop) (E : EK) : Prop := we σ l (kRevT Q) E
theorem qe_revT {k : Nat} {p1 p2 p3 pos : Pos} (he : QE X W e we) : QE X W (.Subscript e (.Slice none none (some (.UnaryOp .USub (.Constant (.int 1) k p1) p2)) p3) pos) (wRevT we) :=
  PE.imp (pe_revT he) fun σ H Q ⟨p, σd, l, Qd, Ed, hH, R, hw, kk, lk⟩ => by
    subst hH
    refine cE_ok R hw lk fun x l1 v p1 e1 R1 r1 q => ?_
    unfold kRevT at q
    split at q
    · rename_i xs
      cases (show RD X.K p1 (.tup xs) v from r1) with
      | tup h1 h2 =>
        refine ⟨_, _, rfl, h1.sq, ?_⟩
        exact (show After X.K p1 _ _ from fun d l' v' p' e' w' c' r' q' => kk d l' v' p' (e1.trans e') (R1.ext e' w' c') r' q').newT R1.wf R1.ce h2.reverse q
    · exact q.elim
/-! ### list(d) -/
def rListDD : List V → Hp → VK → Prop := fun xs H Q => (∃ d kvs, xs = [V.ref d] ∧ H d = some (.dK kvs) ∧ ∀ q, H q = none → Q (.ref q) (upd H q (.lst (kvs.map fun kv => kV kv.1)))) ∨
  ∃ d kvs, xs = [V.ref d] ∧ Rd H d (.dT kvs) ∧ ∀ p bs, H p = none → IsKeys H kvs bs → Q (.ref p) (upd H p (.lst (bs.map V.ref)))
theorem call_listDD {X : Cx} (hc : X.calm = true) : CallR X (.type "list") rListDD := fun pins s σ H xs us Q I r h => by
  rcases h with ⟨d, kvs, e, h1, q⟩ | h
  · exact call_list_dK hc pins s σ H xs us Q I r ⟨d, kvs, e, h1, q⟩
  · exact call_list_dT hc pins s σ H xs us Q I r h
theorem keys_rds {K : PySem.W.Frag} {p : Pt} : ∀ {kvs : List (List Key × V)} {bs : List Addr}, IsKeys p.H kvs bs → RDs K p (keysT (kvs.map (·.1))) (bs.map V.ref)
  | _, _, .nil => .nil
  | _, _, .cons h t => .cons (RD.tup h (rds_kD _)) (keys_rds t)
/-- the keys of a dict that the call made -/
def bListD (f : Fresh) (vs : List P) (l : LS) (Q : P → LS → Prop) : Prop := match vs with
  | [x] => match dtOf l x with
    | some kvs => freshL f (keysT (kvs.map (·.1))) l Q
    | none => False
  | _ => False
theorem ref_listD {K : PySem.W.Frag} {f : Fresh} : RefCall K rListDD (bListD f) := fun p l xs vs Qd Q w ce rx h k => by
  unfold bListD at h
  split at h
  · obtain ⟨v, rfl, r⟩ := rx.one
    split at h
    · rename_i kvs hy
      obtain ⟨a, us, rfl, h1, h2⟩ := dtOf_ok ce r hy
      refine .inr ⟨a, _, rfl, h1, fun q bs hq hb => ?_⟩
      have hk := keys_rds (K := K) hb
      have e : (zipV kvs us).map (·.1) = kvs.map (·.1) := by
        unfold zipV
        rw [List.map_fst_zip]
        rw [List.length_map, ← h2.len, List.length_map]
        exact Nat.le_refl _
      rw [e] at hk
      exact k.fresh w ce hk f h q hq
    · exact h.elim
  · exact h.elim
end
end QL
set_option Elab.async false
set_option linter.all false
set_option maxRecDepth 100000
set_option maxHeartbeats 4000000
/-! QE3: zip of two lists or two tuples that stay. -/
namespace QL
open PySem L2
section
variable {X : Cx} {W : WX} {e : Expr} {ws : WA}
def prsD (xs ys : List D) : List D := (xs.zip ys).map fun q => .tup [q.1, q.2]
theorem prsD_len (xs ys : List D) : (prsD xs ys).length = min xs.length ys.length := by simp [prsD]
theorem prsD_get {xs ys : List D} {i : Nat} {d : D} (h : (prsD xs ys)[i]? = some d) : ∃ x y, xs[i]? = some x ∧ ys[i]? = some y ∧ d = .tup [x, y] := by
  unfold prsD at h
  rw [List.getElem?_map] at h
  obtain ⟨q, h1, rfl⟩ := Option.map_eq_some_iff.mp h
  obtain ⟨h2, h3⟩ := List.getElem?_zip_eq_some.mp h1
  exact ⟨q.1, q.2, h2, h3, rfl⟩
def kZip (R : Items → LS → Prop) (vs : List P) (l : LS) : Prop := match vs with
  | [.d (.lst xs), .d (.lst ys)] => R ⟨prsD xs ys, okAll⟩ l
  | [.d (.tup xs), .d (.tup ys)] => R ⟨prsD xs ys, okAll⟩ l
  | _ => False
def iZip (ws : WA) (σ : SS) (l : LS) (R : Items → LS → Prop) (E : EK) : Prop := ws σ l (kZip R) E
theorem new_pair {K : PySem.W.Frag} {p2 : Pt} {l2 : LS} {T : Addr} {x y : V} {dx dy : D} (w2 : WF p2) (c2 : Cells K p2 l2) (hT : p2.H T = none) (rx : RD K p2 dx x) (ry : RD K p2 dy y) : ∃ p3, p3.H = upd p2.H T (.tup [x, y]) ∧ Ext p2 p3 ∧ WF p3 ∧ Cells K p3 l2 ∧ RD K p3 (.tup [dx, dy]) (.ref T) :=
  ⟨p2.frz T (.tup [x, y]), rfl, ext_frz hT, wf_frz w2, Cells.frz w2 c2 hT, RD.tup upd_same (.cons (rx.mono (ext_frz hT).hf) (.cons (ry.mono (ext_frz hT).hf) .nil))⟩
theorem qi_zip {tg : Expr} (hi : PI X tg e (RZ.iZipA X.K (cA X.K W ws))) : QI X W tg e (iZip ws) := PI.imp hi fun σ H R ⟨p, σd, l, Rd, Ed, hH, R0, hw, k, lk⟩ => by
  subst hH
  refine cA_ok R0 hw lk fun xs l1 vs p1 e1 R1 r1 q1 => ?_
  unfold kZip at q1
  split at q1
  · rename_i xs ys
    obtain ⟨v, t, rfl, ra, rt⟩ : ∃ v t, vs = v :: t ∧ RP X.K p1 (.d (.lst xs)) v ∧ RPs X.K p1 [.d (.lst ys)] t := by cases r1 with | cons a b => exact ⟨_, _, rfl, a, b⟩
    obtain ⟨u, rfl, rb⟩ := rt.one
    cases (show RD X.K p1 (.lst xs) v from ra) with
    | @lst a _ vx h1 h2 =>
      cases (show RD X.K p1 (.lst ys) u from rb) with
      | @lst b _ vy g1 g2 =>
        refine ⟨a, b, vx, vy, rfl, .inl ⟨LstAt.sq (K := X.K) h1, LstAt.sq (K := X.K) g1, k ⟨prsD xs ys, okAll⟩ l1 _ p1 e1 R1 (fun p2 l2 e2 w2 c2 _ i => ?_) q1⟩⟩
        have s1 : SqL X.K p2.H a vx := LstAt.sq (K := X.K) (h1.mono e2.hf)
        have s2 : SqL X.K p2.H b vy := LstAt.sq (K := X.K) (g1.mono e2.hf)
        have m1 := h2.mono e2.hf
        have m2 := g2.mono e2.hf
        refine ⟨fun hi => ⟨vx, vy, s1, s2, ?_⟩, fun hi => ?_, fun x H' d hd hy => ?_⟩
        · rw [prsD_len] at hi
          rw [← m1.len, ← m2.len]
          omega
        · rw [prsD_len] at hi
          obtain ⟨v1, z1, _⟩ := m1.get (List.getElem?_eq_getElem (show i < xs.length by omega))
          obtain ⟨v2, z2, _⟩ := m2.get (List.getElem?_eq_getElem (show i < ys.length by omega))
          exact ⟨vx, vy, v1, v2, s1, s2, z1, z2⟩
        · obtain ⟨x0, y0, hx0, hy0, rfl⟩ := prsD_get hd
          obtain ⟨T, v1, v2, rfl, hT, rfl, hv1, hv2⟩ := hy
          obtain ⟨w1, z1, rx⟩ := m1.get hx0
          obtain ⟨w2', z2, ry⟩ := m2.get hy0
          have a1 := hv1 _ s1
          rw [z1] at a1; cases a1
          have a2 := hv2 _ s2
          rw [z2] at a2; cases a2
          exact new_pair w2 c2 hT rx ry
  · rename_i xs ys
    obtain ⟨v, t, rfl, ra, rt⟩ : ∃ v t, vs = v :: t ∧ RP X.K p1 (.d (.tup xs)) v ∧ RPs X.K p1 [.d (.tup ys)] t := by cases r1 with | cons a b => exact ⟨_, _, rfl, a, b⟩
    obtain ⟨u, rfl, rb⟩ := rt.one
    cases (show RD X.K p1 (.tup xs) v from ra) with
    | @tup a _ vx h1 h2 =>
      cases (show RD X.K p1 (.tup ys) u from rb) with
      | @tup b _ vy g1 g2 =>
        refine ⟨a, b, vx, vy, rfl, .inr ⟨h1.sq, g1.sq, k ⟨prsD xs ys, okAll⟩ l1 _ p1 e1 R1 (fun p2 l2 e2 w2 c2 _ i => ?_) q1⟩⟩
        have s1 : SqT X.K p2.H a vx := (h1.mono e2.hf).sq
        have s2 : SqT X.K p2.H b vy := (g1.mono e2.hf).sq
        have m1 := h2.mono e2.hf
        have m2 := g2.mono e2.hf
        refine ⟨fun hi => ⟨vx, vy, s1, s2, ?_⟩, fun hi => ?_, fun x H' d hd hy => ?_⟩
        · rw [prsD_len] at hi
          rw [← m1.len, ← m2.len]
          omega
        · rw [prsD_len] at hi
          obtain ⟨v1, z1, _⟩ := m1.get (List.getElem?_eq_getElem (show i < xs.length by omega))
          obtain ⟨v2, z2, _⟩ := m2.get (List.getElem?_eq_getElem (show i < ys.length by omega))
          exact ⟨vx, vy, v1, v2, s1, s2, z1, z2⟩
        · obtain ⟨x0, y0, hx0, hy0, rfl⟩ := prsD_get hd
          obtain ⟨T, v1, v2, rfl, hT, rfl, hv1, hv2⟩ := hy
          obtain ⟨w1, z1, rx⟩ := m1.get hx0
          obtain ⟨w2', z2, ry⟩ := m2.get hy0
          have a1 := hv1 _ s1
          rw [z1] at a1; cases a1
          have a2 := hv2 _ s2
          rw [z2] at a2; cases a2
          exact new_pair w2 c2 hT rx ry
  · exact q1.elim
end
end QL
set_option Elab.async false
set_option linter.all false
set_option maxRecDepth 100000
set_option maxHeartbeats 4000000
/-! QE4: sorted(d), the keys alike. -/
namespace QL
open PySem L2 PySem.Spec PyProof.Rows
open PySem.W (AllAlike Sortable EachIs dataLe)
mutual
theorem readsAt {h : Heap} : ∀ {v : Value} {d : PyData} {as : List Addr}, Reads h v d as → ∀ a ∈ as, ∃ o, h.get? a = some o
  | _, _, _, .none, a, m => by simp at m
  | _, _, _, .bool _, a, m => by simp at m
  | _, _, _, .int _ _, a, m => by simp at m
  | _, _, _, .str _ _, a, m => by simp at m
  | _, _, _, .list ho _ _ r, a, m => by
    rcases List.mem_cons.mp m with e | m
    · subst e; exact ⟨_, ho⟩
    · exact readsAllAt r a m
  | _, _, _, .tuple ho _ _ r, a, m => readsAllAt r a m
  | _, _, _, .dict ho _ _ r r', a, m => by
    rcases List.mem_cons.mp m with e | m
    · subst e; exact ⟨_, ho⟩
    · rcases List.mem_append.mp m with m | m
      · exact readsAllAt r a m
      · exact readsAllAt r' a m
theorem readsAllAt {h : Heap} : ∀ {vs : List Value} {ds : List PyData} {as : List Addr}, ReadsAll h vs ds as → ∀ a ∈ as, ∃ o, h.get? a = some o
  | _, _, _, .nil, a, m => by simp at m
  | _, _, _, .cons r t, a, m => by
    rcases List.mem_append.mp m with m | m
    · exact readsAt r a m
    · exact readsAllAt t a m
end
/-- sorted of what can be collected -/
theorem sorted_src {X : Cx} {pins : List (Addr × Obj)} {σ : L2.St} {H : Hp} {s : Shared} {a : Addr} {Q : VK} {bs : List (D × V)} (hu : X.A.units + 64 < cLine) (I : L2.Inv X pins σ H s)
    (hcol : ∀ (R : List Value → Shared → Prop), (∀ h' tk acc, (∀ b o, s.heap.get? b = some o → h'.get? b = some o) → Vals (bs.map (·.2)) acc → R acc { s with heap := h', toks := tk }) → wpAny (model X.prog X.w) X.A.in1 (collect (.ref a)) R X.xe s)
    (hlen : bs.length ≤ sizeLine) (hd : ∀ b ∈ bs, Dp X.K H b.2 b.1.py ∧ b.1.py.depth ≤ 60) (hal : AllAlike (bs.map fun b => b.1.py)) (hk : Sortable (bs.map fun b => b.1.py))
    (q : ∀ p, H p = none → Q (.ref p) (upd H p (.lst ((bs.mergeSort (dataLe false fun b => b.1.py)).map (·.2))))) : wpAny (model X.prog X.w) X.A (call (.builtin "sorted") [.ref a]) (EP X pins σ Q) X.xe s := by
  refine Calls.call_function_entry PyProof.Rows.kind_sorted PyProof.Rows.plain_sorted PyProof.Rows.entry_sorted (PyProof.Rows.args_sorted1 _) ?_
  unfold Builtin.«sorted»
  refine wpAny_bind (m := checkCount "sorted" 1 1 _) (wpAny_pure ?_)
  refine wpAny_bind (hcol _ fun h' tk acc kp rv => ?_)
  have hal2 : acc.length = bs.length := by rw [← rv.length, List.length_map]
  have I1 : L2.Inv X pins σ H { s with heap := h', toks := tk } := I.kept kp
  refine wpAny_bind (wpAny_newList ?_ (by rw [hal2]; exact hlen))
  have hoL : (h'.push (seqObj "list" acc.toArray 0)).get? h'.objs.size = some (seqObj "list" acc.toArray 0) := Heap.get?_push_size _ rfl
  show wpAny _ _ _ _ _ { s with heap := h'.push (seqObj "list" acc.toArray 0), toks := tk }
  have e : EachIs (fun v (b : D × V) => RelV b.2 v) acc bs := each_of rv fun b u m r => r
  have er : EachIs (fun v (b : D × V) => ∃ as, Reads (h'.push (seqObj "list" acc.toArray 0)) v b.1.py as ∧ h'.objs.size ∉ as) acc bs := each_of rv fun b u m r => by
    obtain ⟨as, ra⟩ := Dp.reads I1 _ _ _ (hd b m).1 r
    refine ⟨as, PyProof.Rows.Reads.keeps (fun _ _ e => Heap.get?_push_of_some _ e) ra, fun mm => ?_⟩
    obtain ⟨o, ho⟩ := readsAt ra _ mm
    exact absurd (Heap.lt_size ho) (Nat.lt_irrefl _)
  refine wpAny_bind (wpAny_holding (PySem.W.list_sort_data (enc := fun b : D × V => b.1.py) (R := fun v b => RelV b.2 v) (s := { s with heap := h'.push (seqObj "list" acc.toArray 0), toks := tk }) hoL e er hal hk hlen (fun b m => ?_) fun out ho eo => ?_))
  · have := (hd b m).2
    show X.A.units + 1 + 1 + _ < _
    omega
  · have ro := vals_each eo
    obtain ⟨n, hn⟩ := PyProof.Rows.sortedHeap_at (vs := acc) (out := out.toArray) hoL
    refine wpAny_pure ⟨_, rfl, .ref h'.objs.size, upd H h'.objs.size (.lst ((bs.mergeSort (dataLe false fun b => b.1.py)).map (·.2))), I1.laid (t' := tk) (fun b u e => ?_) (Nat.le_refl _) ⟨?_, out, n, ro, hn⟩, rfl, q _ (I1.hok.fresh (Nat.le_refl _))⟩
    · have hb : b < h'.objs.size := Heap.lt_size e
      rw [PyProof.Rows.sortedHeap_old (Nat.ne_of_lt hb) (by rw [size_push']; exact Nat.lt_succ_of_lt hb)]
      exact Heap.get?_push_of_some _ e
    · rw [List.length_map, List.length_mergeSort]
      exact hlen
/-- sorted(d): over the keys -/
def rSrtDD : List V → Hp → VK → Prop := fun vs H Q => ∃ a, vs = [V.ref a] ∧ ((∃ kvs : List (Key × V), Rd H a (.dK kvs) ∧ ∃ bs : List (D × V), bs = (kvs.map fun kv => (kD kv.1, kV kv.1)) ∧ AllAlike (bs.map fun b => b.1.py) ∧ Sortable (bs.map fun b => b.1.py) ∧
    ∀ p, H p = none → Q (.ref p) (upd H p (.lst ((bs.mergeSort (dataLe false fun b => b.1.py)).map (·.2))))) ∨
  ∃ kvs : List (List Key × V), Rd H a (.dT kvs) ∧ AllAlike ((keysT (kvs.map (·.1))).map D.py) ∧ Sortable ((keysT (kvs.map (·.1))).map D.py) ∧
    ∀ cs : List Addr, IsKeys H kvs cs → ∀ p, H p = none → Q (.ref p) (upd H p (.lst ((((keysT (kvs.map (·.1))).zip (cs.map V.ref)).mergeSort (dataLe false fun b => b.1.py)).map (·.2)))))
theorem kD_py (k : Key) : (kD k).py.depth = 0 := by cases k <;> rfl
theorem kD_dp {K : PySem.W.Frag} {H : Hp} (k : Key) : Dp K H (kV k) (kD k).py := by
  cases k with
  | inl i => exact .int i
  | inr x => exact .str x
theorem kDs_dp {K : PySem.W.Frag} {H : Hp} : ∀ ks : List Key, DpAll K H (ks.map kV) (D.pys (ks.map kD))
  | [] => .nil
  | k :: ks => .cons (kD_dp k) (kDs_dp ks)
theorem kDs_depth : ∀ ks : List Key, PyData.depthAll (D.pys (ks.map kD)) = 0
  | [] => by simp [D.pys, PyData.depthAll]
  | k :: ks => by
    rw [List.map_cons, D.pys, PyData.depthAll, kDs_depth ks, kD_py]
    rfl
theorem keysT_len {κs : List (List Key)} : (keysT κs).length = κs.length := by simp [keysT]
theorem isKeys_at {H : Hp} : ∀ {kvs : List (List Key × V)} {cs : List Addr}, IsKeys H kvs cs → ∀ b ∈ (keysT (kvs.map (·.1))).zip (cs.map V.ref), ∃ (k : List Key) (c : Addr), b = (D.tup (k.map kD), V.ref c) ∧ H c = some (.tup (k.map kV))
  | _, _, .nil, b, m => by simp [keysT] at m
  | _, _, .cons (a := x) (b := y) h t, b, m => by
    rcases List.mem_cons.mp m with e | m
    · exact ⟨x.1, y, e, h⟩
    · exact isKeys_at t b m
theorem cr_sortedDD {X : Cx} (hc : X.calm = true) (hu : X.A.units + 64 < cLine) : CallR X (.builtin "sorted") rSrtDD := by
  intro pins s σ H vs us Q I r h
  obtain ⟨a, rfl, h⟩ := h
  obtain ⟨u, rfl, ru⟩ := vals1 r
  obtain rfl : u = Value.ref a := ru
  rcases h with ⟨kvs, hR, bs, rfl, hal, hk, q⟩ | ⟨kvs, hR, hal, hk, q⟩
  · obtain ⟨z, lo, vs, rel, dd⟩ := dk_rd I.hok hR
    obtain ⟨ep, hat⟩ := dd.dictAt
    have hl : kvs.length = vs.length := Paired.length rel
    refine sorted_src (bs := kvs.map fun kv => (kD kv.1, kV kv.1)) hu I (fun R hR' => ?_) (by rw [List.length_map]; exact z) (fun b m => ?_) hal hk q
    · refine PySem.W.kdu_collect (A := X.A.in1) (PySem.W.kdl_dict (knd := mixKind X.prog X.w) (kvs := vs) (ep := ep) lo) (I.ok.hd hc) hat (by rw [← hl]; exact z) fun h' tk acc hk hacc => hR' h' tk acc.toList hk ?_
      have el : acc.toList.length = acc.size := by simp
      rw [List.map_map]
      refine vals_of_at (by rw [List.length_map, el, hacc.1, hl]) fun j x w h1 h2 => ?_
      obtain ⟨k, y, hky, hi⟩ := hacc.2 j w (by rw [← Array.getElem?_toList]; exact h2)
      have e1 : (kvs.map (·.1))[j]? = some k := by
        rw [KV.keys rel, List.getElem?_map, hky] <;> rfl
      have e2 : (kvs.map fun kv => kV kv.1)[j]? = some (kV k) := by
        have e3 : (kvs.map fun kv => kV kv.1) = (kvs.map (·.1)).map kV := by rw [List.map_map] <;> rfl
        rw [e3, List.getElem?_map, e1] <;> rfl
      have h1 : (kvs.map fun kv => kV kv.1)[j]? = some x := h1
      rw [e2] at h1
      cases h1
      exact keyIs_rel hi
    · obtain ⟨kv, _, rfl⟩ := List.mem_map.mp m
      exact ⟨kD_dp kv.1, by rw [kD_py]; decide⟩
  · obtain ⟨z, hs, ks, pr, o, es, ep, ho, hx, hdt, he, hn⟩ := (show ObjOk X.prog X.w H s.heap a (.dT kvs) from hR.ok I.hok)
    have l1 : es.size = ks.length := size_of_entries he
    have l2 : kvs.length = ks.length := Paired.length pr
    have hik := isKeys_of pr
    have lz : (keysT (kvs.map (·.1))).length = ((ks.map fun x => x.2.1).map V.ref).length := by rw [keysT_len, List.length_map, List.length_map, List.length_map, l2]
    have z1 : ((keysT (kvs.map (·.1))).zip ((ks.map fun x => x.2.1).map V.ref)).map (·.1) = keysT (kvs.map (·.1)) := List.map_fst_zip (by rw [lz]; exact Nat.le_refl _)
    have z2 : ((keysT (kvs.map (·.1))).zip ((ks.map fun x => x.2.1).map V.ref)).map (·.2) = (ks.map fun x => x.2.1).map V.ref := List.map_snd_zip (by rw [lz]; exact Nat.le_refl _)
    have zp : ((keysT (kvs.map (·.1))).zip ((ks.map fun x => x.2.1).map V.ref)).map (fun b => b.1.py) = (keysT (kvs.map (·.1))).map D.py := by
      have e := congrArg (List.map D.py) z1
      rw [List.map_map] at e
      exact e
    refine sorted_src (bs := (keysT (kvs.map (·.1))).zip ((ks.map fun x => x.2.1).map V.ref)) hu I (fun R hR' => ?_) (by rw [List.length_zip, keysT_len, List.length_map]; omega) (fun b m => ?_) (by rw [zp]; exact hal) (by rw [zp]; exact hk) (q _ hik)
    · refine PySem.W.kdu_collect (A := X.A.in1) (kdl_raw hs hx hdt) (I.ok.hd hc) ho (by omega) fun h' tk acc' kp it => hR' h' tk acc'.toList kp ?_
      have ea : acc'.toList = ks.map fun x => Value.ref x.2.1 := by
        have hl : acc'.toList.length = ks.length := by rw [Array.length_toList, it.1]; exact l1
        apply List.ext_getElem?
        intro j
        rw [List.getElem?_map]
        cases hj : acc'.toList[j]? with
        | none =>
          have h1 := List.getElem?_eq_none_iff.mp hj
          rw [List.getElem?_eq_none (by omega)]
          all_goals rfl
        | some v =>
          obtain ⟨en, hen, hv⟩ := it.2 j v (by rw [← Array.getElem?_toList]; exact hj)
          have qe := entry_at he j
          rw [hen] at qe
          cases hb : ks[j]? with
          | none =>
            rw [hb] at qe
            exact nomatch (show some en = none from qe)
          | some b =>
            rw [hb] at qe
            have e2 : en = entryOfKey (tupleKind (mixKind X.prog X.w)) b := Option.some.inj qe
            rw [hv, e2]
            all_goals rfl
      have eb : acc'.toList = (ks.map fun x => x.2.1).map Value.ref := by rw [ea, List.map_map]; all_goals rfl
      rw [z2, eb]
      exact vals_refs _
    · obtain ⟨k, c, rfl, hcH⟩ := isKeys_at hik b m
      refine ⟨.tup (.inl (.inl hcH)) (kDs_dp k), ?_⟩
      show PyData.depth (.tuple (D.pys (k.map kD))) ≤ 60
      rw [PyData.depth, kDs_depth]
      decide
/-- sorted(d), d made in the call -/
def bSrtK (f : Fresh) (vs : List P) (l : LS) (Q : P → LS → Prop) : Prop := match vs with
  | [x] => match dkOf l x with
    | some kvs => okSrt (keysK (kvs.map (·.1))) ∧ freshL f (srtD (keysK (kvs.map (·.1)))) l Q
    | none => match dtOf l x with
      | some kvs => okSrt (keysT (kvs.map (·.1))) ∧ freshL f (srtD (keysT (kvs.map (·.1)))) l Q
      | none => False
  | _ => False
theorem okSrt_py {xs : List D} (h : okSrt xs) : AllAlike (xs.map D.py) ∧ Sortable (xs.map D.py) := by
  obtain ⟨_, o2, o3⟩ := h
  refine ⟨fun d hd d' hd' => ?_, ?_⟩
  · obtain ⟨b, m, rfl⟩ := List.mem_map.mp hd
    obtain ⟨b', m', rfl⟩ := List.mem_map.mp hd'
    exact o2 _ m _ m'
  · rcases o3 with o3 | o3
    · exact .inl fun d hd => by
        obtain ⟨b, m, rfl⟩ := List.mem_map.mp hd
        exact o3 _ m
    · exact .inr fun d hd => by
        obtain ⟨b, m, rfl⟩ := List.mem_map.mp hd
        exact o3 _ m
theorem ref_srtK {K : PySem.W.Frag} {f : Fresh} : RefCall K rSrtDD (bSrtK f) := fun p l xs vs Qd Q w ce rx h k => by
  unfold bSrtK at h
  split at h
  · obtain ⟨v, rfl, r⟩ := rx.one
    split at h
    · rename_i kvs hy
      obtain ⟨o, q⟩ := h
      obtain ⟨a, us, rfl, h1, h2⟩ := dkOf_ok ce r hy
      obtain ⟨g1, g2⟩ := okSrt_py o
      have ek : (zipV kvs us).map (·.1) = kvs.map (·.1) := by
        unfold zipV
        rw [List.map_fst_zip]
        rw [List.length_map, ← h2.len, List.length_map]
        exact Nat.le_refl _
      have ef : ((zipV kvs us).map fun kv => ((kD kv.1, kV kv.1) : D × V)).map (·.1) = keysK (kvs.map (·.1)) := by
        rw [← ek, keysK, List.map_map, List.map_map]
        rfl
      have ep : ((zipV kvs us).map fun kv => ((kD kv.1, kV kv.1) : D × V)).map (fun b => b.1.py) = (keysK (kvs.map (·.1))).map D.py := by
        have e := congrArg (List.map D.py) ef
        rw [List.map_map] at e
        exact e
      refine ⟨a, rfl, .inl ⟨_, h1, _, rfl, by rw [ep]; exact g1, by rw [ep]; exact g2, ?_⟩⟩
      have e1 := srt_zip (bs := (zipV kvs us).map fun kv => ((kD kv.1, kV kv.1) : D × V))
      rw [ef] at e1
      refine k.fresh w ce ?_ f q
      rw [← e1]
      refine rds_zip fun b m => ?_
      obtain ⟨kv, _, rfl⟩ := List.mem_map.mp (List.mem_mergeSort.mp m)
      exact rd_kD kv.1
    · split at h
      · rename_i kvs hy
        obtain ⟨o, q⟩ := h
        obtain ⟨a, us, rfl, h1, h2⟩ := dtOf_ok ce r hy
        obtain ⟨g1, g2⟩ := okSrt_py o
        have ek : (zipV kvs us).map (·.1) = kvs.map (·.1) := by
          unfold zipV
          rw [List.map_fst_zip]
          rw [List.length_map, ← h2.len, List.length_map]
          exact Nat.le_refl _
        refine ⟨a, rfl, .inr ⟨_, h1, by rw [ek]; exact g1, by rw [ek]; exact g2, fun cs hcs => ?_⟩⟩
        have hk := keys_rds (K := K) hcs
        obtain ⟨z1, z2, z3⟩ := zip_rds hk
        have e1 := srt_zip (bs := (keysT ((zipV kvs us).map (·.1))).zip (cs.map V.ref))
        rw [z1] at e1
        refine k.fresh w ce (xs := srtD (keysT (kvs.map (·.1)))) ?_ f q
        rw [← ek, ← e1]
        exact rds_zip fun b m => z3 b (List.mem_mergeSort.mp m)
      · exact h.elim
  · exact h.elim
end QL
set_option Elab.async false
set_option linter.all false
set_option maxRecDepth 100000
set_option maxHeartbeats 4000000
/-! QE5: max and min of a tuple of ints. -/
namespace L2
open PySem PySem.Spec PyProof.Rows
theorem dpAll_ints {K : PySem.W.Frag} {H : Hp} : ∀ ns : List Int, DpAll K H (ns.map V.int) (ns.map PyData.int)
  | [] => .nil
  | n :: ns => .cons (.int n) (dpAll_ints ns)
theorem depth_int : ∀ ns : List Int, PyData.depthAll (ns.map PyData.int) = 0 := PySem.W.depth_ints
theorem alike_int (ns : List Int) : PySem.W.AlikeAll (ns.map PyData.int) := by
  refine ⟨fun d hd d' hd' => ?_, fun d hd => ?_⟩
  · obtain ⟨i, _, rfl⟩ := List.mem_map.mp hd
    obtain ⟨j, _, rfl⟩ := List.mem_map.mp hd'
    rfl
  · obtain ⟨i, _, rfl⟩ := List.mem_map.mp hd
    exact fun z => nomatch z
section
variable {X : Cx}
def rMaxT (K : PySem.W.Frag) : List V → Hp → VK → Prop := fun vs H Q => ∃ (a : Addr) (n : Int) (ns : List Int), vs = [V.ref a] ∧ SqT K H a ((n :: ns).map V.int) ∧ Q (.int (ns.foldl max n)) H
def rMinT (K : PySem.W.Frag) : List V → Hp → VK → Prop := fun vs H Q => ∃ (a : Addr) (n : Int) (ns : List Int), vs = [V.ref a] ∧ SqT K H a ((n :: ns).map V.int) ∧ Q (.int (ns.foldl min n)) H
theorem cr_maxT (hc : X.calm = true) (hu : X.A.units + 64 < cLine) : CallR X (.builtin "max") (rMaxT X.K) := by
  intro pins s σ H vs us Q I r h
  obtain ⟨a, n, ns, rfl, hs, q⟩ := h
  obtain ⟨its, rv, p1, _⟩ := I.tuple hs
  obtain ⟨u, rfl, ru⟩ := vals1 r
  obtain rfl : u = Value.ref a := ru
  obtain ⟨as, ra⟩ := Dp.readsAll I _ _ _ (dpAll_ints (K := X.K) (H := H) (n :: ns)) rv
  refine PySem.W.max_tuple_data (I.ok.hd hc) (show s.heap.IsTuple a its.toArray from p1) (x := .int n) (xs := ns.map .int) ra (alike_int (n :: ns)) (by
    have := depth_int (n :: ns)
    rw [List.map_cons] at this
    rw [this]
    omega) fun i v h' tk bs hv rd hk => ?_
  rw [PySem.W.maxD_ints] at rd
  cases rd
  exact ⟨.int _, H, I.kept hk, ⟨_, rfl⟩, q⟩
theorem cr_minT (hc : X.calm = true) (hu : X.A.units + 64 < cLine) : CallR X (.builtin "min") (rMinT X.K) := by
  intro pins s σ H vs us Q I r h
  obtain ⟨a, n, ns, rfl, hs, q⟩ := h
  obtain ⟨its, rv, p1, _⟩ := I.tuple hs
  obtain ⟨u, rfl, ru⟩ := vals1 r
  obtain rfl : u = Value.ref a := ru
  obtain ⟨as, ra⟩ := Dp.readsAll I _ _ _ (dpAll_ints (K := X.K) (H := H) (n :: ns)) rv
  refine PySem.W.min_tuple_data (I.ok.hd hc) (show s.heap.IsTuple a its.toArray from p1) (x := .int n) (xs := ns.map .int) ra (alike_int (n :: ns)) (by
    have := depth_int (n :: ns)
    rw [List.map_cons] at this
    rw [this]
    omega) fun i v h' tk bs hv rd hk => ?_
  rw [PySem.W.minD_ints] at rd
  cases rd
  exact ⟨.int _, H, I.kept hk, ⟨_, rfl⟩, q⟩
end
end L2
namespace QL
open PySem L2
section
variable {K : PySem.W.Frag} {p : Pt}
def bMaxT (vs : List P) (l : LS) (Q : P → LS → Prop) : Prop := match vs with
  | [.d (.tup xs)] => ∃ (n : Int) (ns : List Int), xs = (n :: ns).map .int ∧ Q (.d (.int (ns.foldl max n))) l
  | _ => False
def bMinT (vs : List P) (l : LS) (Q : P → LS → Prop) : Prop := match vs with
  | [.d (.tup xs)] => ∃ (n : Int) (ns : List Int), xs = (n :: ns).map .int ∧ Q (.d (.int (ns.foldl min n))) l
  | _ => False
theorem rds_int : ∀ {ns : List Int} {vs : List V}, RDs K p (ns.map .int) vs → vs = ns.map V.int
  | [], _, .nil => rfl
  | n :: ns, _, .cons (.int _) t => by rw [rds_int t]; rfl
theorem ref_maxT : RefCall K (rMaxT K) bMaxT := fun p l xs vs Qd Q w ce rx h k => by
  unfold bMaxT at h
  split at h
  · obtain ⟨n, ns, rfl, q⟩ := h
    obtain ⟨v, rfl, r⟩ := rx.one
    cases (show RD K p (.tup ((n :: ns).map .int)) v from r) with
    | tup h1 h2 =>
      have := rds_int h2
      subst this
      exact ⟨_, n, ns, rfl, h1.sq, k.same w ce (d := .d _) (RD.int _) q⟩
  · exact h.elim
theorem ref_minT : RefCall K (rMinT K) bMinT := fun p l xs vs Qd Q w ce rx h k => by
  unfold bMinT at h
  split at h
  · obtain ⟨n, ns, rfl, q⟩ := h
    obtain ⟨v, rfl, r⟩ := rx.one
    cases (show RD K p (.tup ((n :: ns).map .int)) v from r) with
    | tup h1 h2 =>
      have := rds_int h2
      subst this
      exact ⟨_, n, ns, rfl, h1.sq, k.same w ce (d := .d _) (RD.int _) q⟩
  · exact h.elim
end
end QL
set_option Elab.async false
set_option linter.all false
set_option maxRecDepth 100000
set_option maxHeartbeats 4000000
/-! QE6: cells made in a loop's turn are forgotten at its end; comprehensions with a test. -/
namespace QL
open PySem PySem.Spec L2
def dropP (n : Nat) : Option P → Option P
  | some (.loc k) => if k < n then some (.loc k) else none
  | some (.d x) => some (.d x)
  | _ => none
def dropS (n : Nat) (σ : SS) : SS := σ.map (dropP n)
theorem dropS_nil {n : Nat} : dropS n [] = [] := rfl
theorem dropS_cons {n : Nat} {x : Option P} {σ : SS} : dropS n (x :: σ) = dropP n x :: dropS n σ := rfl
theorem dropP_d {n : Nat} {x : D} : dropP n (some (.d x)) = some (.d x) := rfl
theorem dropP_none {n : Nat} : dropP n none = none := rfl
theorem dropP_loc {n k : Nat} : dropP n (some (.loc k)) = if k < n then some (.loc k) else none := rfl
section
variable {X : Cx} {W : WX} {w : WS} {sts : List Stmt}
def wCut (w : WS) (D : ED) (σ : SS) (l : LS) : Prop := w { D with nx := fun σ' l' => D.nx (dropS l.length σ') (l'.take l.length), ct := fun σ' l' => D.ct (dropS l.length σ') (l'.take l.length) } σ l
theorem cut_rel {K : PySem.W.Frag} {p p' : Pt} {σ : L2.St} {σd : SS} {l : LS} (e : Ext p p') (R : Rel K p' σ σd l) : ∃ p2 : Pt, p2.H = p'.H ∧ Ext p p2 ∧ Rel K p2 σ (dropS p.rho.length σd) (l.take p.rho.length) := by
  obtain ⟨p2, hH, hF, hr, e2, w2, c2, hf⟩ := cut_ok e R.wf R.ce
  refine ⟨p2, hH, e2, w2, ⟨by rw [dropS, List.length_map]; exact R.sl.1, fun i d hd => ?_⟩, c2⟩
  unfold dropS at hd
  rw [List.getElem?_map] at hd
  obtain ⟨x, hx, hxd⟩ := Option.map_eq_some_iff.mp hd
  cases x with
  | none => cases hxd
  | some x =>
    obtain ⟨v, h1, h2⟩ := R.sl.2 i x hx
    cases x with
    | d x =>
      cases hxd
      exact ⟨v, h1, RD.mono hf h2⟩
    | loc k =>
      unfold dropP at hxd
      by_cases hk : k < p.rho.length
      · simp only [if_pos hk] at hxd
        cases hxd
        obtain ⟨a, h3, rfl⟩ := h2
        obtain ⟨t, ht⟩ := e.pre
        rw [ht, List.getElem?_append_left hk] at h3
        exact ⟨_, h1, a, by rw [hr]; exact h3, rfl⟩
      · simp only [if_neg hk] at hxd
        cases hxd
    | exc => cases hxd
theorem qss_cut (h : QSs X W sts w) : QSs X W sts (wCut w) := PSs.imp h fun D σ H ⟨p, σd, l, Dd, hH, R, hw, k⟩ => by
  subst hH
  have hl : l.length = p.rho.length := R.ce.1
  refine ⟨p, σd, l, _, rfl, R, hw, ⟨fun p' σ' σd' l' e R' q => ?_, k.bk, fun p' σ' σd' l' e R' q => ?_, k.rt, k.ex⟩⟩
  · obtain ⟨p2, hH, e2, R2⟩ := cut_rel e R'
    rw [← hH]
    rw [← hl] at R2
    exact k.nx p2 _ _ _ e2 R2 q
  · obtain ⟨p2, hH, e2, R2⟩ := cut_rel e R'
    rw [← hH]
    rw [← hl] at R2
    exact k.ct p2 _ _ _ e2 R2 q
end
/-- [elt for x in xs if test] -/
def kItF (Iv : Nat → List D → LS → Prop) (n i : Nat) (acc : List D) (l : LS) : Prop := (acc.length ≤ i ∧ i ≤ n) ∧ Iv i acc l
theorem lcTC {xs : List D} {ok : LS → Prop} {g : WG} {σ : SS} {l : LS} {tt : WT} {te : WE} {vs : List Nat} {f : Fresh} {Q : P → LS → Prop} (Iv : Nat → List D → LS → Prop) (hz : xs.length < sizeLine) (h0 : Iv 0 [] l) (hok : ∀ i acc l, Iv i acc l → ok l)
    (ht : ∀ i x acc l, xs[i]? = some x → acc.length ≤ i → Iv i acc l → g (.d x) (wipeD σ vs) l (kLcT tt te vs σ (kItF Iv xs.length (i + 1)) acc)) (hd : ∀ acc l, acc.length ≤ xs.length → Iv xs.length acc l → freshL f acc l Q) : lcP ⟨xs, ok⟩ g tt te vs f σ l Q :=
  ⟨kItF Iv xs.length, ⟨⟨Nat.le_refl _, Nat.zero_le _⟩, h0⟩, fun i acc l h => ⟨hok _ _ _ h.2, by have := h.1; show acc.length < sizeLine; omega⟩, fun i x acc l e h => ht i x acc l e h.1.1 h.2, fun acc l h => hd acc l h.1.1 h.2⟩
theorem lcT {xs : List D} {g : WG} {σ : SS} {l : LS} {tt : WT} {te : WE} {vs : List Nat} {f : Fresh} {Q : P → LS → Prop} (Iv : Nat → List D → LS → Prop) (hz : xs.length < sizeLine) (h0 : Iv 0 [] l)
    (ht : ∀ i x acc l, xs[i]? = some x → acc.length ≤ i → Iv i acc l → g (.d x) (wipeD σ vs) l (kLcT tt te vs σ (kItF Iv xs.length (i + 1)) acc)) (hd : ∀ acc l, acc.length ≤ xs.length → Iv xs.length acc l → freshL f acc l Q) : lcP ⟨xs, okAll⟩ g tt te vs f σ l Q :=
  lcTC Iv hz h0 (fun _ _ _ _ => True.intro) ht hd
end QL
namespace QL
open PySem PySem.Spec L2
/-- a name's list is frozen ahead of a statement -/
def wIceV (i : Nat) (w : WS) (D : ED) (σ : SS) (l : LS) : Prop := match σ[i]? with
  | some (some (.loc n)) => match l[n]? with
    | some (.lst xs) => w D (σ.set i (some (.d (.lst xs)))) (l.set n (.frz xs))
    | _ => False
  | _ => w D σ l
theorem qss_ice {X : Cx} {W : WX} {w : WS} {sts : List Stmt} {i : Nat} (h : QSs X W sts w) : QSs X W sts (wIceV i w) := PSs.imp h fun D σ H ⟨p, σd, l, Dd, hH, R, hw, k⟩ => by
  subst hH
  unfold wIceV at hw
  split at hw
  · rename_i n hi
    split at hw
    · rename_i xs e
      obtain ⟨v, hv, a, h1, rfl⟩ := R.sl.2 i _ hi
      obtain ⟨c1, r2⟩ := Cells.ice R.wf R.ce h1 e
      have hr := List.mem_of_getElem? h1
      have R1 := R.ext (ext_ice hr) (wf_ice R.wf hr) c1
      have R2 := R1.set (i := i) (d := .d (.lst xs)) (v := .ref a) r2
      have es : σ.set i (some (.ref a)) = σ := by
        have hlt := (List.getElem?_eq_some_iff.mp hv).1
        have := (List.getElem?_eq_some_iff.mp hv).2
        rw [← this]
        exact List.set_getElem_self hlt
      rw [es] at R2
      exact ⟨p.ice a, _, _, Dd, rfl, R2, hw, k.mono (ext_ice hr)⟩
    · exact hw.elim
  · exact ⟨p, σd, l, Dd, rfl, R, hw, k⟩
end QL
set_option Elab.async false
set_option linter.all false
set_option maxRecDepth 100000
set_option maxHeartbeats 4000000
/-! QE7: x is True. -/
namespace QL
open PySem PySem.Spec L2
def oIsB (x y : P) (l : LS) (Q : P → LS → Prop) : Prop := match x, y with
  | .d (.bl a), .d (.bl b) => Q (.d (.bl (decide (a = b)))) l
  | _, _ => False
theorem ref_isB {K : PySem.W.Frag} : RefOp K (fun x y H Q => ∃ a b, x = .bl a ∧ y = .bl b ∧ Q (.bl (decide (a = b))) H) oIsB := fun p l x y vx vy Qd Q w ce rx ry h k => by
  unfold oIsB at h
  split at h
  · rename_i a b
    cases (show RD K p (.bl a) vx from rx)
    cases (show RD K p (.bl b) vy from ry)
    exact ⟨a, b, rfl, rfl, k.same w ce (d := .d _) (RD.bl _) h⟩
  · exact h.elim
end QL
set_option Elab.async false
set_option linter.all false
set_option maxRecDepth 100000
set_option maxHeartbeats 4000000
/-! M68: depths of asking, plain. n the number of things, a lot as a number's bits, an ask as its values and its cost. -/
namespace M68
abbrev Ask := List Nat × Nat
def bits (n lot : Nat) : List Nat := (List.range n).filter fun t => lot.testBit t
def mask (ts : List Nat) : Nat := (ts.map (2 ^ ·)).sum
def val (vs : List Nat) (t : Nat) : Nat := vs.getD t 0
def part (vs ts : List Nat) (v : Nat) : List Nat := ts.filter fun t => val vs t == v
def ins (kvs : List (Nat × Nat)) (v m : Nat) : List (Nat × Nat) := if kvs.any (·.1 == v) then kvs.map (fun q => if q.1 = v then (v, q.2 + m) else q) else kvs ++ [(v, m)]
def clsL (vs ts : List Nat) : List (Nat × Nat) := ts.foldl (fun k t => ins k (val vs t) (2 ^ t)) []
theorem mask_app (a b : List Nat) : mask (a ++ b) = mask a + mask b := by simp [mask]
theorem mask_one (t : Nat) : mask [t] = 2 ^ t := by simp [mask]
theorem part_app (vs a b : List Nat) (v : Nat) : part vs (a ++ b) v = part vs a v ++ part vs b v := by simp [part]
theorem part_one_eq (vs : List Nat) (t : Nat) : part vs [t] (val vs t) = [t] := by simp [part]
theorem part_one_ne (vs : List Nat) (t v : Nat) (h : val vs t ≠ v) : part vs [t] v = [] := by simp [part, h]
theorem mask_zero {ts : List Nat} : mask ts = 0 ↔ ts = [] := by
  cases ts with
  | nil => simp [mask]
  | cons t r =>
    have := Nat.two_pow_pos t
    simp [mask]
structure ClsOk (vs ts : List Nat) (kvs : List (Nat × Nat)) : Prop where
  nd : (kvs.map (·.1)).Nodup
  mem : ∀ v m, (v, m) ∈ kvs ↔ m = mask (part vs ts v) ∧ part vs ts v ≠ []
theorem ClsOk.key {vs ts : List Nat} {kvs : List (Nat × Nat)} (h : ClsOk vs ts kvs) (v : Nat) : v ∈ kvs.map (·.1) ↔ part vs ts v ≠ [] := by
  constructor
  · intro m
    obtain ⟨q, hq, rfl⟩ := List.mem_map.mp m
    exact ((h.mem q.1 q.2).mp hq).2
  · intro m
    exact List.mem_map.mpr ⟨(v, mask (part vs ts v)), (h.mem _ _).mpr ⟨rfl, m⟩, rfl⟩
theorem ins_ok {vs ts : List Nat} {kvs : List (Nat × Nat)} (h : ClsOk vs ts kvs) (t : Nat) : ClsOk vs (ts ++ [t]) (ins kvs (val vs t) (2 ^ t)) := by
  unfold ins
  by_cases hk : kvs.any (·.1 == val vs t) = true
  · rw [if_pos hk]
    obtain ⟨q, hq, e⟩ := List.any_eq_true.mp hk
    have e : q.1 = val vs t := by simpa using e
    refine ⟨?_, fun v m => ?_⟩
    · have : (kvs.map (fun q => if q.1 = val vs t then (val vs t, q.2 + 2 ^ t) else q)).map (·.1) = kvs.map (·.1) := by
        rw [List.map_map]
        apply List.map_congr_left
        intro x _
        by_cases hx : x.1 = val vs t
        · simp [hx]
        · simp [hx]
      rw [this]
      exact h.nd
    · rw [part_app, mask_app]
      constructor
      · intro hm
        obtain ⟨x, hx, e2⟩ := List.mem_map.mp hm
        by_cases hxv : x.1 = val vs t
        · rw [if_pos hxv] at e2
          cases e2
          have := (h.mem x.1 x.2).mp hx
          rw [hxv] at this
          rw [part_one_eq, mask_one, ← this.1]
          exact ⟨rfl, by simp⟩
        · rw [if_neg hxv] at e2
          subst e2
          have := (h.mem v m).mp hx
          rw [part_one_ne vs t v fun z => hxv z.symm]
          simpa [mask] using this
      · rintro ⟨rfl, hne⟩
        by_cases hv : val vs t = v
        · subst hv
          have hq' := (h.mem q.1 q.2).mp hq
          rw [e] at hq'
          refine List.mem_map.mpr ⟨q, hq, ?_⟩
          rw [if_pos e, part_one_eq, mask_one, hq'.1]
        · rw [part_one_ne vs t v hv] at hne ⊢
          simp only [List.append_nil] at hne
          refine List.mem_map.mpr ⟨(v, mask (part vs ts v)), (h.mem _ _).mpr ⟨rfl, hne⟩, ?_⟩
          rw [if_neg fun z => hv z.symm]
          simp [mask]
  · rw [if_neg hk]
    have hno : part vs ts (val vs t) = [] := by
      refine Classical.byContradiction fun hc => hk ?_
      obtain ⟨q, hq, e⟩ := List.mem_map.mp ((h.key _).mpr hc)
      exact List.any_eq_true.mpr ⟨q, hq, by simpa using e⟩
    refine ⟨?_, fun v m => ?_⟩
    · rw [List.map_append, List.nodup_append]
      refine ⟨h.nd, by simp, fun a ha b hb e => ?_⟩
      have hb : b = val vs t := by simpa using hb
      subst e; subst hb
      exact (h.key _).mp ha hno
    · rw [part_app, mask_app]
      constructor
      · intro hm
        rcases List.mem_append.mp hm with hm | hm
        · have := (h.mem v m).mp hm
          have hv : val vs t ≠ v := fun z => this.2 (by rw [← z]; exact hno)
          rw [part_one_ne vs t v hv]
          simpa [mask] using this
        · have e : v = val vs t ∧ m = 2 ^ t := by simpa using hm
          obtain ⟨rfl, rfl⟩ := e
          rw [hno, part_one_eq, mask_one]
          simp [mask]
      · rintro ⟨rfl, hne⟩
        by_cases hv : val vs t = v
        · subst hv
          rw [hno, part_one_eq, mask_one]
          simp [mask]
        · rw [part_one_ne vs t v hv] at hne ⊢
          simp only [List.append_nil] at hne
          exact List.mem_append_left _ ((h.mem _ _).mpr ⟨by simp [mask], hne⟩)
theorem cls_ok (vs : List Nat) : ∀ ts : List Nat, ClsOk vs ts (clsL vs ts) := by
  intro ts
  rw [← List.reverse_reverse ts]
  generalize ts.reverse = r
  induction r with
  | nil => exact ⟨by simp [clsL], fun v m => by simp [clsL, part]⟩
  | cons t r ih =>
    rw [List.reverse_cons]
    have e : clsL vs (r.reverse ++ [t]) = ins (clsL vs r.reverse) (val vs t) (2 ^ t) := by simp [clsL]
    rw [e]
    exact ins_ok ih t
def bitsOf : List Bool → Nat
  | [] => 0
  | b :: bs => (if b = true then 1 else 0) + 2 * bitsOf bs
theorem bitsOf_app (b : Bool) : ∀ bs : List Bool, bitsOf (bs ++ [b]) = bitsOf bs + if b = true then 2 ^ bs.length else 0
  | [] => by cases b <;> rfl
  | x :: bs => by
    rw [List.cons_append, bitsOf, bitsOf, bitsOf_app b bs, List.length_cons, Nat.pow_succ]
    cases b <;> simp <;> omega
theorem bitsOf_bit : ∀ (bs : List Bool) (k : Nat), (bitsOf bs).testBit k = bs.getD k false
  | [], k => by simp [bitsOf]
  | b :: bs, 0 => by
    rw [Nat.testBit_zero, bitsOf]
    cases b <;> simp <;> omega
  | b :: bs, k + 1 => by
    rw [Nat.testBit_succ, bitsOf]
    have : ((if b = true then 1 else 0) + 2 * bitsOf bs) / 2 = bitsOf bs := by cases b <;> simp <;> omega
    rw [this, bitsOf_bit bs k]
    simp
theorem bitsOf_lt : ∀ bs : List Bool, bitsOf bs < 2 ^ bs.length
  | [] => by simp [bitsOf]
  | b :: bs => by
    have := bitsOf_lt bs
    rw [bitsOf, List.length_cons, Nat.pow_succ]
    cases b <;> simp <;> omega
/-! data -/
abbrev AskL := List (List Int × QL.D)
abbrev askD (a : List Int × QL.D) : QL.D := .tup [.tup (a.1.map .int), a.2]
/-! ### a lot and its things -/
theorem mask_rng (p : Nat → Bool) : ∀ n : Nat, mask ((List.range n).filter p) = bitsOf ((List.range n).map p)
  | 0 => rfl
  | n + 1 => by
    rw [List.range_succ, List.filter_append, List.map_append, mask_app, mask_rng p n]
    show _ = bitsOf (_ ++ [p n])
    rw [bitsOf_app, List.length_map, List.length_range]
    by_cases h : p n = true
    · rw [if_pos h]
      simp [h, mask]
    · rw [if_neg h]
      simp [h, mask]
theorem mask_bit (p : Nat → Bool) (n k : Nat) : (mask ((List.range n).filter p)).testBit k = (decide (k < n) && p k) := by
  rw [mask_rng, bitsOf_bit]
  by_cases h : k < n
  · rw [decide_eq_true h, Bool.true_and]
    simp [List.getD, h]
  · rw [decide_eq_false h, Bool.false_and]
    simp [List.getD, h]
theorem mask_lt (p : Nat → Bool) (n : Nat) : mask ((List.range n).filter p) < 2 ^ n := by
  rw [mask_rng]
  have := bitsOf_lt ((List.range n).map p)
  rw [List.length_map, List.length_range] at this
  exact this
theorem mask_bits {n lot : Nat} (h : lot < 2 ^ n) : mask (bits n lot) = lot := by
  refine Nat.eq_of_testBit_eq fun k => ?_
  unfold bits
  rw [mask_bit]
  by_cases hk : k < n
  · simp [hk]
  · rw [decide_eq_false hk, Bool.false_and]
    refine (Nat.testBit_lt_two_pow (Nat.lt_of_lt_of_le h (Nat.pow_le_pow_right (by decide) (by omega)))).symm
/-- the things of a class -/
theorem part_eq (vs : List Nat) (n lot v : Nat) : part vs (bits n lot) v = (List.range n).filter fun t => lot.testBit t && (val vs t == v) := by
  unfold part bits
  rw [List.filter_filter]
  congr 1
  funext t
  rw [Bool.and_comm]
theorem bits_part (vs : List Nat) (n lot v : Nat) : bits n (mask (part vs (bits n lot) v)) = part vs (bits n lot) v := by
  rw [part_eq]
  unfold bits
  apply List.filter_congr
  intro t ht
  rw [mask_bit, decide_eq_true (List.mem_range.mp ht), Bool.true_and]
theorem part_lt (vs : List Nat) (n lot v : Nat) : mask (part vs (bits n lot) v) < 2 ^ n := by
  rw [part_eq]
  exact mask_lt _ n
theorem mask_split (p : Nat → Bool) : ∀ ts : List Nat, mask (ts.filter p) + mask (ts.filter fun t => !p t) = mask ts
  | [] => rfl
  | t :: ts => by
    have := mask_split p ts
    by_cases h : p t = true
    · simp only [List.filter_cons, h, Bool.not_true, if_true, Bool.false_eq_true, if_false]
      simp only [mask, List.map_cons, List.sum_cons] at this ⊢
      omega
    · rw [Bool.not_eq_true] at h
      simp only [List.filter_cons, h, Bool.not_false, if_true, Bool.false_eq_true, if_false]
      simp only [mask, List.map_cons, List.sum_cons] at this ⊢
      omega
/-- a class that is not the whole is less -/
theorem part_less {vs : List Nat} {n lot v u : Nat} (h : lot < 2 ^ n) (hne : u ≠ v) (hu : part vs (bits n lot) u ≠ []) : mask (part vs (bits n lot) v) < lot := by
  have e := mask_split (fun t => val vs t == v) (bits n lot)
  rw [mask_bits h] at e
  have : mask ((bits n lot).filter fun t => !(val vs t == v)) ≠ 0 := by
    rw [Ne, mask_zero]
    intro z
    obtain ⟨t, ht⟩ := List.exists_mem_of_ne_nil _ hu
    obtain ⟨h1, h2⟩ := List.mem_filter.mp ht
    have h2 : val vs t = u := by simpa using h2
    have : t ∈ (bits n lot).filter fun t => !(val vs t == v) := List.mem_filter.mpr ⟨h1, by simp [h2, hne]⟩
    rw [z] at this
    simp at this
  show mask ((bits n lot).filter fun t => val vs t == v) < lot
  omega
/-! ### the least depth -/
def le (x : Option Nat) (k : Nat) : Prop := ∃ b, x = some b ∧ b ≤ k
theorem le_some {b k : Nat} : le (some b) k ↔ b ≤ k := ⟨fun ⟨_, h, q⟩ => by cases h; exact q, fun h => ⟨b, rfl, h⟩⟩
theorem le_none {k : Nat} : ¬ le none k := fun ⟨_, h, _⟩ => nomatch h
theorem opt_ext {x y : Option Nat} (h : ∀ k, le x k ↔ le y k) : x = y := by
  cases x with
  | none =>
    cases y with
    | none => rfl
    | some b => exact absurd ((h b).mpr (le_some.mpr (Nat.le_refl _))) le_none
  | some a =>
    cases y with
    | none => exact absurd ((h a).mp (le_some.mpr (Nat.le_refl _))) le_none
    | some b =>
      have h1 := le_some.mp ((h a).mp (le_some.mpr (Nat.le_refl _)))
      have h2 := le_some.mp ((h b).mpr (le_some.mpr (Nat.le_refl _)))
      rw [show a = b by omega]
def wStep (dep : Nat → Option Nat) (w : Option Nat) (m : Nat) : Option Nat := match w, dep m with
  | some a, some b => some (max a b)
  | _, _ => none
def worst (dep : Nat → Option Nat) (ms : List Nat) : Option Nat := ms.foldl (wStep dep) (some 0)
theorem worst_app (dep : Nat → Option Nat) (ms : List Nat) (m : Nat) : worst dep (ms ++ [m]) = wStep dep (worst dep ms) m := by simp [worst]
theorem worst_le (dep : Nat → Option Nat) (ms : List Nat) (k : Nat) : le (worst dep ms) k ↔ ∀ m ∈ ms, le (dep m) k := by
  rw [← List.reverse_reverse ms]
  generalize ms.reverse = r
  induction r with
  | nil => simp [worst, le_some]
  | cons m r ih =>
    rw [List.reverse_cons, worst_app]
    have e : (∀ x ∈ r.reverse ++ [m], le (dep x) k) ↔ (∀ x ∈ r.reverse, le (dep x) k) ∧ le (dep m) k := by
      simp only [List.mem_append, List.mem_singleton]
      exact ⟨fun h => ⟨fun x hx => h x (.inl hx), h m (.inr rfl)⟩, fun h x hx => hx.elim (h.1 x) fun z => by rw [z]; exact h.2⟩
    rw [e, ← ih]
    unfold wStep
    cases worst dep r.reverse with
    | none => exact ⟨fun h => absurd h le_none, fun h => absurd h.1 le_none⟩
    | some a =>
      cases dep m with
      | none => exact ⟨fun h => absurd h le_none, fun h => absurd h.2 le_none⟩
      | some b =>
        simp only [le_some]
        omega
/-- the masks of an ask's classes -/
def cm (n : Nat) (a : Ask) (lot : Nat) : List Nat := (clsL a.1 (bits n lot)).map (·.2)
def bStep (n : Nat) (dep : Nat → Option Nat) (lot : Nat) (b : Option Nat) (a : Ask) : Option Nat :=
  if (cm n a lot).length < 2 then b else match worst dep (cm n a lot), b with
    | none, b => b
    | some w, none => some (w + a.2)
    | some w, some x => if w + a.2 < x then some (w + a.2) else some x
def best (n : Nat) (dep : Nat → Option Nat) (asks : List Ask) (lot : Nat) : Option Nat := asks.foldl (bStep n dep lot) none
def fits (n : Nat) (dep : Nat → Option Nat) (lot k : Nat) (a : Ask) : Prop := 2 ≤ (cm n a lot).length ∧ ∃ w, worst dep (cm n a lot) = some w ∧ w + a.2 ≤ k
theorem best_app (n : Nat) (dep : Nat → Option Nat) (asks : List Ask) (a : Ask) (lot : Nat) : best n dep (asks ++ [a]) lot = bStep n dep lot (best n dep asks lot) a := by simp [best]
theorem best_le (n : Nat) (dep : Nat → Option Nat) (asks : List Ask) (lot k : Nat) : le (best n dep asks lot) k ↔ ∃ a ∈ asks, fits n dep lot k a := by
  rw [← List.reverse_reverse asks]
  generalize asks.reverse = r
  induction r with
  | nil => simp [best, le_none]
  | cons a r ih =>
    rw [List.reverse_cons, best_app]
    have e : (∃ x ∈ r.reverse ++ [a], fits n dep lot k x) ↔ (∃ x ∈ r.reverse, fits n dep lot k x) ∨ fits n dep lot k a := by
      simp only [List.mem_append, List.mem_singleton]
      exact ⟨fun ⟨x, hx, h⟩ => hx.elim (fun z => .inl ⟨x, z, h⟩) fun z => .inr (by rw [← z]; exact h), fun h => h.elim (fun ⟨x, hx, h⟩ => ⟨x, .inl hx, h⟩) fun h => ⟨a, .inr rfl, h⟩⟩
    rw [e, ← ih]
    unfold bStep fits
    by_cases h2 : (cm n a lot).length < 2
    · rw [if_pos h2]
      exact ⟨.inl, fun h => h.elim id fun h => absurd h.1 (by omega)⟩
    · rw [if_neg h2]
      have h2' : 2 ≤ (cm n a lot).length := by omega
      cases hw : worst dep (cm n a lot) with
      | none => exact ⟨.inl, fun h => h.elim id fun ⟨_, w, z, _⟩ => nomatch z⟩
      | some w =>
        have ew : (∃ w', some w = some w' ∧ w' + a.2 ≤ k) ↔ w + a.2 ≤ k := ⟨fun ⟨_, z, q⟩ => by cases z; exact q, fun q => ⟨w, rfl, q⟩⟩
        rw [ew]
        cases best n dep r.reverse lot with
        | none =>
          simp only [le_some]
          exact ⟨fun h => .inr ⟨h2', h⟩, fun h => h.elim (fun z => absurd z le_none) (·.2)⟩
        | some x =>
          simp only
          by_cases hx : w + a.2 < x
          · rw [if_pos hx]
            simp only [le_some]
            omega
          · rw [if_neg hx]
            simp only [le_some]
            omega
/-- the depths of the lots below j -/
def depL (n : Nat) (asks : List Ask) : Nat → List (Option Nat)
  | 0 => []
  | j + 1 => depL n asks j ++ [if (bits n j).length < 2 then some 0 else best n (fun m => (depL n asks j).getD m none) asks j]
theorem depL_len (n : Nat) (asks : List Ask) : ∀ j, (depL n asks j).length = j
  | 0 => rfl
  | j + 1 => by simp [depL, depL_len n asks j]
def dep (n : Nat) (asks : List Ask) (m : Nat) : Option Nat := (depL n asks (m + 1)).getD m none
theorem depL_get (n : Nat) (asks : List Ask) : ∀ j m : Nat, m < j → (depL n asks j).getD m none = dep n asks m
  | 0, m, h => by omega
  | j + 1, m, h => by
    by_cases hm : m = j
    · subst hm; rfl
    · rw [show (depL n asks (j + 1)).getD m none = (depL n asks j).getD m none by
        rw [depL, List.getD_eq_getElem?_getD, List.getElem?_append_left (by rw [depL_len]; omega), ← List.getD_eq_getElem?_getD]]
      exact depL_get n asks j m (by omega)
theorem depL_map (n : Nat) (asks : List Ask) (j : Nat) : depL n asks j = (List.range j).map (dep n asks) := by
  apply List.ext_getElem
  · simp [depL_len]
  · intro i h1 h2
    have := depL_get n asks j i (by rw [depL_len] at h1; exact h1)
    rw [List.getD_eq_getElem?_getD, List.getElem?_eq_getElem h1] at this
    simpa using this
theorem dep_eq (n : Nat) (asks : List Ask) (lot : Nat) : dep n asks lot = if (bits n lot).length < 2 then some 0 else best n (fun m => (depL n asks lot).getD m none) asks lot := by
  unfold dep
  rw [depL, List.getD_eq_getElem?_getD, List.getElem?_append_right (by rw [depL_len]; exact Nat.le_refl _), depL_len]
  simp
theorem cm_mem {n : Nat} {a : Ask} {lot m : Nat} : m ∈ cm n a lot ↔ ∃ v, m = mask (part a.1 (bits n lot) v) ∧ part a.1 (bits n lot) v ≠ [] := by
  unfold cm
  constructor
  · intro h
    obtain ⟨q, hq, rfl⟩ := List.mem_map.mp h
    exact ⟨q.1, ((cls_ok a.1 (bits n lot)).mem q.1 q.2).mp hq⟩
  · rintro ⟨v, h1, h2⟩
    exact List.mem_map.mpr ⟨(v, m), ((cls_ok a.1 (bits n lot)).mem v m).mpr ⟨h1, h2⟩, rfl⟩
/-- two classes at least: a second value is met -/
theorem cm_two {n : Nat} {a : Ask} {lot : Nat} : 2 ≤ (cm n a lot).length ↔ ∃ u v, u ≠ v ∧ part a.1 (bits n lot) u ≠ [] ∧ part a.1 (bits n lot) v ≠ [] := by
  have ok := cls_ok a.1 (bits n lot)
  have el : (cm n a lot).length = ((clsL a.1 (bits n lot)).map (·.1)).length := by simp [cm]
  rw [el]
  have nd := ok.nd
  have key := ok.key
  generalize (clsL a.1 (bits n lot)).map (·.1) = ks at nd key el ⊢
  constructor
  · intro h
    match ks, h, nd, key with
    | u :: v :: r, _, nd, key =>
      refine ⟨u, v, fun e => ?_, (key u).mp (by simp), (key v).mp (by simp)⟩
      rw [e] at nd
      simp at nd
    | [_], h, _, _ => simp at h
    | [], h, _, _ => simp at h
  · rintro ⟨u, v, hne, hu, hv⟩
    have mu := (key u).mpr hu
    have mv := (key v).mpr hv
    match ks, mu, mv with
    | [x], mu, mv => exact absurd ((List.mem_singleton.mp mu).trans (List.mem_singleton.mp mv).symm) hne
    | [], mu, mv => simp at mu
    | _ :: _ :: _, _, _ => simp
theorem cm_less {n : Nat} {a : Ask} {lot m : Nat} (h : lot < 2 ^ n) (h2 : 2 ≤ (cm n a lot).length) (hm : m ∈ cm n a lot) : m < lot := by
  obtain ⟨u, v, hne, hu, hv⟩ := cm_two.mp h2
  obtain ⟨w, rfl, hw⟩ := cm_mem.mp hm
  by_cases e : u = w
  · subst e
    exact part_less h (Ne.symm hne) hv
  · exact part_less h e hu
theorem worst_congr {d d' : Nat → Option Nat} {ms : List Nat} (h : ∀ m ∈ ms, d m = d' m) : worst d ms = worst d' ms := by
  refine opt_ext fun k => ?_
  rw [worst_le, worst_le]
  exact ⟨fun q m hm => by rw [← h m hm]; exact q m hm, fun q m hm => by rw [h m hm]; exact q m hm⟩
theorem fits_dep {n : Nat} {asks : List Ask} {lot k : Nat} {a : Ask} (h : lot < 2 ^ n) : fits n (fun m => (depL n asks lot).getD m none) lot k a ↔ fits n (dep n asks) lot k a := by
  unfold fits
  constructor
  · rintro ⟨h2, q⟩
    rw [worst_congr fun m hm => depL_get n asks lot m (cm_less h h2 hm)] at q
    exact ⟨h2, q⟩
  · rintro ⟨h2, q⟩
    rw [← worst_congr fun m hm => depL_get n asks lot m (cm_less h h2 hm)] at q
    exact ⟨h2, q⟩
/-- THE LAW of the depths -/
theorem dep_le {n : Nat} {asks : List Ask} {lot k : Nat} (h : lot < 2 ^ n) (h2 : ¬ (bits n lot).length < 2) : le (dep n asks lot) k ↔ ∃ a ∈ asks, fits n (dep n asks) lot k a := by
  rw [dep_eq, if_neg h2, best_le]
  exact ⟨fun ⟨a, ha, q⟩ => ⟨a, ha, (fits_dep h).mp q⟩, fun ⟨a, ha, q⟩ => ⟨a, ha, (fits_dep h).mpr q⟩⟩
theorem dep_small {n : Nat} {asks : List Ask} {lot : Nat} (h2 : (bits n lot).length < 2) : dep n asks lot = some 0 := by
  rw [dep_eq, if_pos h2]
theorem best_dep {n : Nat} {asks : List Ask} {lot : Nat} (h : lot < 2 ^ n) (h2 : ¬ (bits n lot).length < 2) : best n (dep n asks) asks lot = dep n asks lot := by
  refine opt_ext fun k => ?_
  rw [best_le, dep_le h h2]
/-- of fits, the classes one by one -/
theorem fits_iff {n : Nat} {d : Nat → Option Nat} {lot k : Nat} {a : Ask} : fits n d lot k a ↔ 2 ≤ (cm n a lot).length ∧ a.2 ≤ k ∧ ∀ m ∈ cm n a lot, le (d m) (k - a.2) := by
  unfold fits
  constructor
  · rintro ⟨h2, w, hw, hk⟩
    refine ⟨h2, by omega, (worst_le d _ _).mp ?_⟩
    rw [hw]
    exact le_some.mpr (by omega)
  · rintro ⟨h2, hk, hm⟩
    obtain ⟨w, hw, hwk⟩ := (worst_le d _ _).mpr hm
    exact ⟨h2, w, hw, by omega⟩
/-! ### marks: what all asks say of a thing -/
def alike (asks : List Ask) (t u : Nat) : Prop := ∀ a ∈ asks, val a.1 t = val a.1 u
def parted (n : Nat) (asks : List Ask) (lot : Nat) : Prop := ∀ t ∈ bits n lot, ∀ u ∈ bits n lot, alike asks t u → t = u
theorem bits_two {n lot t u : Nat} (ht : t ∈ bits n lot) (hu : u ∈ bits n lot) (h : t ≠ u) : ¬ (bits n lot).length < 2 := by
  intro hl
  match hb : bits n lot, hl with
  | [], _ => rw [hb] at ht; simp at ht
  | [x], _ =>
    rw [hb] at ht hu
    exact h ((List.mem_singleton.mp ht).trans (List.mem_singleton.mp hu).symm)
  | _ :: _ :: _, hl => simp at hl; omega
theorem bits_nd (n lot : Nat) : (bits n lot).Nodup := List.nodup_range.filter _
theorem two_bits {n lot : Nat} (h : ¬ (bits n lot).length < 2) : ∃ t u, t ∈ bits n lot ∧ u ∈ bits n lot ∧ t ≠ u := by
  have nd := bits_nd n lot
  match hb : bits n lot, h with
  | t :: u :: r, _ =>
    rw [hb] at nd
    exact ⟨t, u, by simp, by simp, fun e => by rw [e] at nd; simp at nd⟩
  | [x], h => simp at h
  | [], h => simp at h
/-- two alike things never part -/
theorem dep_none {n : Nat} {asks : List Ask} : ∀ (lot : Nat), lot < 2 ^ n → ¬ parted n asks lot → dep n asks lot = none := by
  intro lot
  induction lot using Nat.strongRecOn with
  | _ lot ih =>
    intro h hp
    obtain ⟨t, ht, u, hu, ha, hne⟩ : ∃ t, t ∈ bits n lot ∧ ∃ u, u ∈ bits n lot ∧ alike asks t u ∧ t ≠ u := by
      refine Classical.byContradiction fun hc => hp fun t ht u hu ha => Classical.byContradiction fun hne => hc ⟨t, ht, u, hu, ha, hne⟩
    have h2 := bits_two ht hu hne
    cases e : dep n asks lot with
    | none => rfl
    | some b =>
      obtain ⟨a, hm, q⟩ := (dep_le (k := b) h h2).mp (by rw [e]; exact le_some.mpr (Nat.le_refl _))
      obtain ⟨q1, q2, q3⟩ := fits_iff.mp q
      have htp : t ∈ part a.1 (bits n lot) (val a.1 t) := List.mem_filter.mpr ⟨ht, by simp⟩
      have hup : u ∈ part a.1 (bits n lot) (val a.1 t) := List.mem_filter.mpr ⟨hu, by simp [ha a hm]⟩
      have hc : mask (part a.1 (bits n lot) (val a.1 t)) ∈ cm n a lot := cm_mem.mpr ⟨_, rfl, fun z => by rw [z] at htp; simp at htp⟩
      have := ih _ (cm_less h q1 hc) (part_lt _ _ _ _) fun hpp => hne (hpp t (by rw [bits_part]; exact htp) u (by rw [bits_part]; exact hup) ha)
      have z := q3 _ hc
      rw [this] at z
      exact absurd z le_none
theorem le_mono {x : Option Nat} {j k : Nat} (h : le x j) (hk : j ≤ k) : le x k := by
  obtain ⟨b, e, q⟩ := h
  exact ⟨b, e, by omega⟩
theorem part_len {vs : List Nat} {ts : List Nat} {u v : Nat} (hne : u ≠ v) (hu : part vs ts u ≠ []) : (part vs ts v).length + 1 ≤ ts.length := by
  have e : (part vs ts v).length + (ts.filter fun t => !(val vs t == v)).length = ts.length := by
    unfold part
    clear hu
    induction ts with
    | nil => rfl
    | cons t ts ih =>
      by_cases h : (val vs t == v) = true
      · simp only [List.filter_cons, h, Bool.not_true, if_true, Bool.false_eq_true, if_false, List.length_cons]
        omega
      · rw [Bool.not_eq_true] at h
        simp only [List.filter_cons, h, Bool.not_false, if_true, Bool.false_eq_true, if_false, List.length_cons]
        omega
  obtain ⟨t, ht⟩ := List.exists_mem_of_ne_nil _ hu
  obtain ⟨h1, h2⟩ := List.mem_filter.mp ht
  have h2 : val vs t = u := by simpa using h2
  have hm : t ∈ ts.filter fun t => !(val vs t == v) := List.mem_filter.mpr ⟨h1, by simp [h2, hne]⟩
  have : 0 < (ts.filter fun t => !(val vs t == v)).length := List.length_pos_of_mem hm
  omega
/-- parted lots settle, within a bound -/
theorem dep_some {n C : Nat} {asks : List Ask} (hC : ∀ a ∈ asks, a.2 ≤ C) : ∀ (lot : Nat), lot < 2 ^ n → parted n asks lot → le (dep n asks lot) (((bits n lot).length - 1) * C) := by
  intro lot
  induction lot using Nat.strongRecOn with
  | _ lot ih =>
    intro h hp
    by_cases h2 : (bits n lot).length < 2
    · rw [dep_small h2]
      exact le_some.mpr (Nat.zero_le _)
    · obtain ⟨t, u, ht, hu, hne⟩ := two_bits h2
      obtain ⟨a, ha, hv⟩ : ∃ a ∈ asks, val a.1 t ≠ val a.1 u := by
        refine Classical.byContradiction fun hc => hne (hp t ht u hu fun a ha => Classical.byContradiction fun z => hc ⟨a, ha, z⟩)
      have htp : t ∈ part a.1 (bits n lot) (val a.1 t) := List.mem_filter.mpr ⟨ht, by simp⟩
      have hup : u ∈ part a.1 (bits n lot) (val a.1 u) := List.mem_filter.mpr ⟨hu, by simp⟩
      have n1 : part a.1 (bits n lot) (val a.1 t) ≠ [] := fun z => by rw [z] at htp; simp at htp
      have n2 : part a.1 (bits n lot) (val a.1 u) ≠ [] := fun z => by rw [z] at hup; simp at hup
      have q1 : 2 ≤ (cm n a lot).length := cm_two.mpr ⟨_, _, hv, n1, n2⟩
      have hCa := hC a ha
      have e1 : ((bits n lot).length - 1) * C = ((bits n lot).length - 2) * C + C := by
        rw [show (bits n lot).length - 1 = ((bits n lot).length - 2) + 1 by omega, Nat.add_mul, Nat.one_mul]
      refine (dep_le h h2).mpr ⟨a, ha, fits_iff.mpr ⟨q1, by omega, fun m hm => ?_⟩⟩
      have hml := cm_less h q1 hm
      obtain ⟨v, rfl, hvn⟩ := cm_mem.mp hm
      have hpm : parted n asks (mask (part a.1 (bits n lot) v)) := fun x hx y hy hxy => by
        rw [bits_part] at hx hy
        exact hp x (List.mem_filter.mp hx).1 y (List.mem_filter.mp hy).1 hxy
      have hl : (part a.1 (bits n lot) v).length + 1 ≤ (bits n lot).length := by
        by_cases e : val a.1 t = v
        · exact part_len (fun z => hv (e.trans z.symm)) n2
        · exact part_len e n1
      have := ih _ hml (part_lt _ _ _ _) hpm
      rw [bits_part] at this
      refine le_mono this ?_
      have hmul : ((part a.1 (bits n lot) v).length - 1) * C ≤ ((bits n lot).length - 2) * C := Nat.mul_le_mul_right _ (by omega)
      omega
/-! ### the layers -/
/-- what stands by the number k -/
def upto (d : Nat → Option Nat) (k m : Nat) : Option Nat := match d m with
  | some b => if b ≤ k then some b else none
  | none => none
theorem upto_some {d : Nat → Option Nat} {k m b : Nat} : upto d k m = some b ↔ d m = some b ∧ b ≤ k := by
  unfold upto
  cases d m with
  | none => simp
  | some x =>
    by_cases h : x ≤ k
    · simp only [if_pos h, Option.some.injEq]
      exact ⟨fun e => ⟨e, by omega⟩, fun e => e.1⟩
    · simp only [if_neg h]
      constructor
      · intro e; cases e
      · rintro ⟨e, hb⟩
        cases e
        omega
theorem upto_none {d : Nat → Option Nat} {k m : Nat} : upto d k m = none ↔ ¬ le (d m) k := by
  unfold upto
  cases d m with
  | none => simp [le_none]
  | some x =>
    rw [le_some]
    by_cases h : x ≤ k
    · simp [h]
    · simp [h]
/-- an ask settles a lot by the number -/
def settles (n : Nat) (told : Nat → Option Nat) (asks : List Ask) (lot number : Nat) : Prop := ∃ a ∈ asks, 2 ≤ (cm n a lot).length ∧ ∀ m ∈ cm n a lot, ∃ b, told m = some b ∧ b + a.2 ≤ number
theorem settles_iff {n : Nat} {asks : List Ask} {told : Nat → Option Nat} {lot k : Nat} (hc : ∀ a ∈ asks, 1 ≤ a.2) (ht : ∀ m, m < lot → told m = upto (dep n asks) k m ∨ told m = upto (dep n asks) (k + 1) m)
    (h : lot < 2 ^ n) (h2 : ¬ (bits n lot).length < 2) : settles n told asks lot (k + 1) ↔ le (dep n asks lot) (k + 1) := by
  rw [dep_le h h2]
  constructor
  · rintro ⟨a, ha, q1, q2⟩
    refine ⟨a, ha, fits_iff.mpr ⟨q1, ?_, fun m hm => ?_⟩⟩
    · obtain ⟨m, hm⟩ := List.exists_mem_of_ne_nil (cm n a lot) (fun z => by rw [z] at q1; simp at q1)
      obtain ⟨b, _, hb⟩ := q2 m hm
      omega
    · obtain ⟨b, e, hb⟩ := q2 m hm
      rcases ht m (cm_less h q1 hm) with z | z
      · rw [z] at e
        exact ⟨b, (upto_some.mp e).1, by omega⟩
      · rw [z] at e
        exact ⟨b, (upto_some.mp e).1, by omega⟩
  · rintro ⟨a, ha, q⟩
    obtain ⟨q1, q2, q3⟩ := fits_iff.mp q
    refine ⟨a, ha, q1, fun m hm => ?_⟩
    obtain ⟨b, e, hb⟩ := q3 m hm
    have h1 := hc a ha
    refine ⟨b, ?_, by omega⟩
    rcases ht m (cm_less h q1 hm) with z | z
    · rw [z]
      exact upto_some.mpr ⟨e, by omega⟩
    · rw [z]
      exact upto_some.mpr ⟨e, by omega⟩
end M68
set_option Elab.async false
set_option linter.all false
set_option maxRecDepth 100000
set_option maxHeartbeats 4000000
/-! M69: the layers of depths, plain. -/
namespace M68
def mixU (d : Nat → Option Nat) (k : Nat) (S : List Nat) (m : Nat) : Option Nat := if m ∈ S then upto d (k + 1) m else upto d k m
theorem set_rng {α : Type} {f g : Nat → α} {N lot : Nat} {x : α} (h : ∀ m, m < N → m ≠ lot → f m = g m) (hx : lot < N → g lot = x) : ((List.range N).map f).set lot x = (List.range N).map g := by
  apply List.ext_getElem
  · simp
  · intro i h1 h2
    have hi : i < N := by simpa using h2
    rw [List.getElem_set]
    by_cases e : lot = i
    · subst e
      rw [if_pos rfl, List.getElem_map, List.getElem_range, hx hi]
    · rw [if_neg e, List.getElem_map, List.getElem_map, List.getElem_range]
      exact h i hi fun z => e z.symm
theorem upto_zero {n : Nat} {A : List Ask} (hc : ∀ a ∈ A, 1 ≤ a.2) {m : Nat} (hm : m < 2 ^ n) : upto (dep n A) 0 m = if (bits n m).length < 2 then some 0 else none := by
  by_cases h : (bits n m).length < 2
  · rw [if_pos h]
    exact upto_some.mpr ⟨dep_small h, Nat.le_refl _⟩
  · rw [if_neg h]
    refine upto_none.mpr fun z => ?_
    obtain ⟨a, ha, q⟩ := (dep_le hm h).mp z
    obtain ⟨_, q2, _⟩ := fits_iff.mp q
    have := hc a ha
    omega
theorem upto_mono {d : Nat → Option Nat} {k m : Nat} (h : upto d (k + 1) m = none) : upto d k m = none := by
  rw [upto_none] at h ⊢
  exact fun z => h (le_mono z (by omega))
theorem mix_end {n : Nat} {A : List Ask} {k : Nat} {ws : List Nat} {m : Nat} (hm : m < 2 ^ n) (hw : ∀ j, j < 2 ^ n → (1 < (bits n j).length ∧ parted n A j) → upto (dep n A) k j = none → j ∈ ws) : mixU (dep n A) k ws m = upto (dep n A) (k + 1) m := by
  unfold mixU
  by_cases h : m ∈ ws
  · rw [if_pos h]
  · rw [if_neg h]
    by_cases hp : parted n A m
    · by_cases hl : 1 < (bits n m).length
      · cases e : upto (dep n A) k m with
        | none => exact absurd (hw m hm ⟨hl, hp⟩ e) h
        | some b =>
          obtain ⟨e1, e2⟩ := upto_some.mp e
          exact (upto_some.mpr ⟨e1, by omega⟩).symm
      · have e := dep_small (asks := A) (show (bits n m).length < 2 by omega)
        rw [upto_some.mpr ⟨e, Nat.zero_le _⟩, upto_some.mpr ⟨e, Nat.zero_le _⟩]
    · have e := dep_none m hm hp
      have h1 : ∀ k, upto (dep n A) k m = none := fun k => upto_none.mpr (by rw [e]; exact le_none)
      rw [h1, h1]
/-- a lot that settles by the next number has just this depth -/
theorem settle_new {d : Nat → Option Nat} {k m : Nat} (h : le (d m) (k + 1)) (h0 : upto d k m = none) : upto d (k + 1) m = some (k + 1) := by
  obtain ⟨b, e, hb⟩ := h
  rw [upto_none, e, le_some] at h0
  have : b = k + 1 := by omega
  subst this
  exact upto_some.mpr ⟨e, Nat.le_refl _⟩
theorem upto_all {n : Nat} {A : List Ask} {C M m : Nat} (hC : ∀ a ∈ A, a.2 ≤ C) (hm : m < 2 ^ n) (hM : ((bits n m).length - 1) * C ≤ M) : upto (dep n A) M m = dep n A m := by
  cases e : dep n A m with
  | none => exact upto_none.mpr (by rw [e]; exact le_none)
  | some b =>
    refine upto_some.mpr ⟨e, ?_⟩
    have hp : parted n A m := Classical.byContradiction fun hp => by
      rw [dep_none m hm hp] at e
      cases e
    have := dep_some hC m hm hp
    rw [e] at this
    have := le_some.mp this
    omega
end M68
set_option Elab.async false
set_option linter.all false
set_option maxRecDepth 100000
set_option maxHeartbeats 4000000
namespace W68
open PySem PySem.Spec PyProof.Rows L2 QL M68
open QL (D P LS SS WE)
local macro_rules | `(tactic| walk_at "q") => `(tactic| simp only [iOr, wNever, wNeverE, bMaxT, bMinT, mCount, kRevL, wRevL, kRevT, wRevT, QL.iZip, kZip, bSrt, bSrtK, bListD, oUpper, kM0S, wM0S, iKys, kKeys, oDGet, oDIn, dLook, dkOf, dtOf, wNewK, wNewT, gSubD, kSubD1, kSubD2, wGet, kGet1, kGet2, kGet3, wDs, kDs1, kDs2, mkK, mkT, dPut, dLen, bLenDc, keyD, keyT, oInD, mIndex, kLess, Int.reduceEq, decide_false, Bool.not_false, Bool.not_true, List.reverse_cons, List.reverse_nil, kRaise, wRaise, wTry, dSu, kDel, wXf, kXf, wIsX, kIsX, noXD, wCall0, kCall0, oMulT, oMulS, oCatS, oSlS, bLenS, kOp2, kOp1, kUn, kB, kTru, wTru, truD, kNot, kAnd, kOr, kAndV, kOrV, kNotV, kIfE, kCh1, kCh2, kCh3, kC1, kC2, kCB, kDrop, kIf, kG, kAsg, kAug1, kAug2, kPart, kSl1, kSl2, kSl3, kTupD, kLstD, kIce, wIce, kBM0, kBM1, kBM2, kSub1, kSub2, kLst, kTp, kRg1, kRg2, kRg3, kSt, iSt, kTurn, kFor, kWh, kEl, kTs, kLcT, kLc, kCall, kMs, kIt, kEnd, kEx, callE, wSeq, wAsg, gN, wC, wVar, wOp, wUn, wB, isB, wNot, wAnd, wOr, wAndV, wOrV, wNotV, wIfE, wChain, wNil, wCons, wCB, wNext, wBreak, wCont, wDrop, wRet, wRetN, wIf, gE, gC, gT, wAug, oII, oI0, oB0, oU, oIs, QL.isNon,
  bInt1, bInt2, bLen, bTup, bIsi, tyOf, wFor, iRg1, iRg2, iRg3, iLst, iTp, wCall, wTup, wLst, asDs, wBM, wBM0, seqOf, lstOf, lisOf, freshL, snap, oEq, oIx, oIn, oCat, oCatT, wSl, wPart, wNoPart, oSlL, oSlT, mAppend, mPop, mPopAt, mExtend, mRev, gSubL, wLc, wYes, bSum, bAll, bAny, bMax, bMin, bList,
  startD, List.map_cons, List.map_nil, List.length_cons, List.length_nil, List.replicate, List.cons_append, List.nil_append, List.set_cons_zero, List.set_cons_succ, List.getElem?_cons_zero, List.getElem?_cons_succ, Nat.reduceAdd, Nat.reduceSub, Option.map_some, retN, CMul, CDiv, callP, callB, locsOf, relab, pick, wback, List.nodup_nil, List.getD_cons_zero,
  Int.reducePow, Int.reduceNeg, Int.reduceLT, Int.reduceLE, and_self, or_true, true_or, true_and, and_true, decide_eq_true_eq, reduceIte, List.take_length, List.take_zero, List.take_succ_cons, Int.zero_add, List.length_map, Int.reduceToNat, Nat.lt_irrefl, Bool.not_true, Bool.not_false, Bool.true_eq_false, dOk_cons, dOk_nil, atI_cons1, atI_cons0, seqIx0, ixN0, pos_len, ne_len, nodup1, Option.some.injEq, exists_eq_left', Option.isSome_some, List.eraseIdx_cons_zero, Int.ofNat_zero, Int.natCast_zero, Int.lt_irrefl, if_true, eq_self, wipeD, rangeD_len, List.length_append, D.eqv_int, dOk_int, dOk_non, dOk_ints, Bool.false_eq_true, Nat.reduceLeDiff, Nat.reduceLT, wCut, wIceV, oIsB, dropS_nil, dropS_cons, dropP_d, dropP_none, dropP_loc, if_false, decide_true, Bool.not_eq_true', decide_eq_false_iff_not, List.take_nil])
def natsD (xs : List Nat) : List QL.D := xs.map fun n : Nat => QL.D.int (n : Int)
theorem natsD_len (xs : List Nat) : (natsD xs).length = xs.length := by simp [natsD]
theorem natsD_app (xs ys : List Nat) : natsD (xs ++ ys) = natsD xs ++ natsD ys := by simp [natsD]
def kvD (kvs : List (Nat × Nat)) : List (Key × D) := kvs.map fun q => (Sum.inl (q.1 : Int), D.int (q.2 : Int))
abbrev dkD (kvs : List (Nat × Nat)) : D := .dk ((kvD kvs).map (·.1)) ((kvD kvs).map (·.2))
def getC (kvs : List (Nat × Nat)) (v : Nat) : Option Nat := (kvs.find? fun q => decide (q.1 = v)).map (·.2)
theorem inl_eq (a b : Nat) : ((Sum.inl (a : Int) : Key) = Sum.inl (b : Int)) ↔ a = b := by
  constructor
  · intro h
    have := Sum.inl.inj h
    omega
  · intro h; rw [h]
theorem valD_kv (kvs : List (Nat × Nat)) (v : Nat) : valD (kvD kvs) (Sum.inl (v : Int)) = (getC kvs v).map fun m : Nat => D.int (m : Int) := by
  unfold valD getC kvD
  rw [List.find?_map, Option.map_map, Option.map_map]
  have : ((fun q : Key × D => decide (q.1 = Sum.inl (v : Int))) ∘ fun q : Nat × Nat => ((Sum.inl (q.1 : Int) : Key), D.int (q.2 : Int))) = fun q : Nat × Nat => decide (q.1 = v) := by
    funext q
    exact decide_eq_decide.mpr (inl_eq _ _)
  rw [this]
  rfl
theorem getC_mem {kvs : List (Nat × Nat)} (nd : (kvs.map (·.1)).Nodup) {v m : Nat} (h : (v, m) ∈ kvs) : getC kvs v = some m := by
  unfold getC
  cases e : kvs.find? fun q => decide (q.1 = v) with
  | none =>
    have := List.find?_eq_none.mp e (v, m) h
    simp at this
  | some q =>
    have h1 := List.mem_of_find?_eq_some e
    have h2 := List.find?_some e
    have h2 : q.1 = v := by simpa using h2
    have : q = (v, m) := by
      clear e
      induction kvs with
      | nil => simp at h
      | cons x r ih =>
        rw [List.map_cons, List.nodup_cons] at nd
        rcases List.mem_cons.mp h with e1 | e1 <;> rcases List.mem_cons.mp h1 with e2 | e2
        · rw [e2, ← e1]
        · exact absurd (List.mem_map.mpr ⟨q, e2, by rw [h2, ← e1]⟩) nd.1
        · exact absurd (List.mem_map.mpr ⟨(v, m), e1, by rw [← e2, h2]⟩) nd.1
        · exact ih nd.2 e1 e2
    rw [this]
    rfl
theorem getC_none {kvs : List (Nat × Nat)} {v : Nat} (h : kvs.any (·.1 == v) = false) : getC kvs v = none := by
  unfold getC
  rw [List.find?_eq_none.mpr, Option.map_none]
  intro q hq
  have := List.any_eq_false.mp h q hq
  simpa using this
theorem put_kv {kvs : List (Nat × Nat)} (nd : (kvs.map (·.1)).Nodup) (v m : Nat) : putD (kvD kvs) (Sum.inl (v : Int)) (.int (((getC kvs v).getD 0 + m : Nat) : Int)) = kvD (ins kvs v m) := by
  unfold ins
  by_cases h : kvs.any (·.1 == v) = true
  · rw [if_pos h]
    unfold putD kvD
    rw [if_pos (by
      rw [List.any_map]
      obtain ⟨q, hq, e⟩ := List.any_eq_true.mp h
      have e : q.1 = v := by simpa using e
      exact List.any_eq_true.mpr ⟨q, hq, by simp [e]⟩)]
    rw [List.map_map, List.map_map]
    apply List.map_congr_left
    intro q hq
    by_cases e : q.1 = v
    · have := getC_mem nd (v := q.1) (m := q.2) hq
      rw [e] at this
      simp [e, this]
    · have e' : ¬ ((Sum.inl (q.1 : Int) : Key) = Sum.inl (v : Int)) := fun z => e ((inl_eq _ _).mp z)
      simp [e, e']
  · rw [if_neg h]
    rw [Bool.not_eq_true] at h
    unfold putD kvD
    rw [if_neg (by
      rw [List.any_map]
      intro z
      obtain ⟨q, hq, e⟩ := List.any_eq_true.mp z
      have e : q.1 = v := by
        have : (Sum.inl (q.1 : Int) : Key) = Sum.inl (v : Int) := by simpa using e
        exact (inl_eq _ _).mp this
      have := List.any_eq_false.mp h q hq
      simp [e] at this)]
    rw [getC_none h]
    simp
theorem natsD_at {v : List Nat} {t : Nat} (h : t < v.length) : atI (natsD v) (t : Int) = some (.int (val v t : Nat)) := by
  have e : v[t]? = some (val v t) := by
    unfold val
    rw [List.getElem?_eq_getElem h, List.getD_eq_getElem?_getD, List.getElem?_eq_getElem h]
    rfl
  exact atI_m (f := fun n : Nat => D.int (n : Int)) rfl e
theorem cls_len (v ts : List Nat) : (clsL v ts).length ≤ ts.length := by
  rw [← List.reverse_reverse ts]
  generalize ts.reverse = r
  induction r with
  | nil => simp [clsL]
  | cons t r ih =>
    rw [List.reverse_cons]
    have e : clsL v (r.reverse ++ [t]) = ins (clsL v r.reverse) (val v t) (2 ^ t) := by simp [clsL]
    rw [e, List.length_append]
    unfold ins
    split
    · rw [List.length_map]; simp at ih ⊢; omega
    · rw [List.length_append]; simp at ih ⊢; omega
theorem bits_len (n lot : Nat) : (bits n lot).length ≤ n := by
  unfold bits
  exact Nat.le_trans (List.length_filter_le _ _) (by simp)
theorem kv_zip : ∀ kvs : List (Nat × Nat), ((kvD kvs).map (·.1)).zip ((kvD kvs).map (·.2)) = kvD kvs
  | [] => rfl
  | a :: r => by
    have := kv_zip r
    unfold kvD at this ⊢
    rw [List.map_cons, List.map_cons, List.map_cons, List.zip_cons_cons, this]
theorem bits_lt {n lot t : Nat} (h : lot < 2 ^ n) (ht : t ∈ bits 8 lot) : t < n := by
  refine Classical.byContradiction fun hc => ?_
  have := (List.mem_filter.mp ht).2
  rw [Nat.testBit_lt_two_pow (Nat.lt_of_lt_of_le h (Nat.pow_le_pow_right (by decide) (by omega)))] at this
  cases this
theorem kvD_len (kvs : List (Nat × Nat)) : (kvD kvs).length = kvs.length := by simp [kvD]
abbrev AskL := List (List Nat × List Nat)
abbrev asksD (As : AskL) : D := .tup (As.map fun a => .tup [.tup (natsD a.1), .tup (natsD a.2)])
def mkA (As : AskL) (cs : List Nat) : List Ask := (As.map (·.1)).zip cs

def top (i : Nat) : Stmt := PySem.Challenge.pw_columnwright_k68_ask_depths.main.body.getD i (.Pass ⟨0, 0, 0, 0⟩)
abbrev s_law_mixed : Stmt := top 25
abbrev N_law_mixed : List Str := ["number", "place", "told", "seed", "turn"]
theorem sc_law_mixed : FnScope N_law_mixed ["number", "place"] (defScope s_law_mixed) := ⟨rfl, rfl, rfl, by decide +kernel, rfl, by decide +kernel, by decide +kernel⟩
abbrev s_law_purse : Stmt := top 26
abbrev N_law_purse : List Str := ["script", "purse", "later", "place", "size"]
theorem sc_law_purse : FnScope N_law_purse ["script"] (defScope s_law_purse) := ⟨rfl, rfl, rfl, by decide +kernel, rfl, by decide +kernel, by decide +kernel⟩
abbrev s_law_take : Stmt := top 27
abbrev N_law_take : List Str := ["purse", "many", "told"]
theorem sc_law_take : FnScope N_law_take ["purse", "many"] (defScope s_law_take) := ⟨rfl, rfl, rfl, by decide +kernel, rfl, by decide +kernel, by decide +kernel⟩
abbrev s_law_row : Stmt := top 28
abbrev N_law_row : List Str := ["purse", "long", "many", "place"]
theorem sc_law_row : FnScope N_law_row ["purse", "long", "many"] (defScope s_law_row) := ⟨rfl, rfl, rfl, by decide +kernel, rfl, by decide +kernel, by decide +kernel⟩
abbrev s_law_asks : Stmt := top 30
abbrev N_law_asks : List Str := ["purse", "many", "most", "size", "width", "pool", "rows", "turn", "row", "ledgers", "ledger", "told", "mate", "pick"]
theorem sc_law_asks : FnScope N_law_asks ["purse", "many", "most"] (defScope s_law_asks) := ⟨rfl, rfl, rfl, by decide +kernel, rfl, by decide +kernel, by decide +kernel⟩
abbrev s_members : Stmt := top 7
abbrev N_members : List Str := ["lot", "told", "thing"]
theorem sc_members : FnScope N_members ["lot"] (defScope s_members) := ⟨rfl, rfl, rfl, by decide +kernel, rfl, by decide +kernel, by decide +kernel⟩
abbrev s_classes_by : Stmt := top 9
abbrev N_classes_by : List Str := ["values", "lot", "classes", "thing"]
theorem sc_classes_by : FnScope N_classes_by ["values", "lot"] (defScope s_classes_by) := ⟨rfl, rfl, rfl, by decide +kernel, rfl, by decide +kernel, by decide +kernel⟩
abbrev s_worst_of : Stmt := top 10
abbrev N_worst_of : List Str := ["depths", "classes", "worst", "value", "depth"]
theorem sc_worst_of : FnScope N_worst_of ["depths", "classes"] (defScope s_worst_of) := ⟨rfl, rfl, rfl, by decide +kernel, rfl, by decide +kernel, by decide +kernel⟩
abbrev s_best_at : Stmt := top 11
abbrev N_best_at : List Str := ["asks", "costs", "depths", "lot", "least_depth", "chosen_ask", "number", "classes", "worst"]
theorem sc_best_at : FnScope N_best_at ["asks", "costs", "depths", "lot"] (defScope s_best_at) := ⟨rfl, rfl, rfl, by decide +kernel, rfl, by decide +kernel, by decide +kernel⟩
abbrev s_solved : Stmt := top 12
abbrev N_solved : List Str := ["asks", "costs", "many", "depths", "firsts", "lot", "depth", "first"]
theorem sc_solved : FnScope N_solved ["asks", "costs", "many"] (defScope s_solved) := ⟨rfl, rfl, rfl, by decide +kernel, rfl, by decide +kernel, by decide +kernel⟩
abbrev s_ask_depths : Stmt := top 13
abbrev N_ask_depths : List Str := ["asks", "many", "depths", "firsts", "ask"]
theorem sc_ask_depths : FnScope N_ask_depths ["asks", "many"] (defScope s_ask_depths) := ⟨rfl, rfl, rfl, by decide +kernel, rfl, by decide +kernel, by decide +kernel⟩
abbrev s_row_depths : Stmt := top 14
abbrev N_row_depths : List Str := ["asks", "many", "depths", "firsts", "values", "ledger"]
theorem sc_row_depths : FnScope N_row_depths ["asks", "many"] (defScope s_row_depths) := ⟨rfl, rfl, rfl, by decide +kernel, rfl, by decide +kernel, by decide +kernel⟩
abbrev s_law_told : Stmt := top 35
abbrev N_law_told : List Str := ["rows", "asks", "many", "error"]
theorem sc_law_told : FnScope N_law_told ["rows", "asks", "many"] (defScope s_law_told) := ⟨rfl, rfl, rfl, by decide +kernel, rfl, by decide +kernel, by decide +kernel⟩
abbrev s_is_number : Stmt := top 2
abbrev N_is_number : List Str := ["thing"]
theorem sc_is_number : FnScope N_is_number ["thing"] (defScope s_is_number) := ⟨rfl, rfl, rfl, by decide +kernel, rfl, by decide +kernel, by decide +kernel⟩
abbrev s_is_tuple_of : Stmt := top 16
abbrev N_is_tuple_of : List Str := ["thing", "many"]
theorem sc_is_tuple_of : FnScope N_is_tuple_of ["thing", "many"] (defScope s_is_tuple_of) := ⟨rfl, rfl, rfl, by decide +kernel, rfl, by decide +kernel, by decide +kernel⟩
abbrev s_are_parted : Stmt := top 18
abbrev N_are_parted : List Str := ["asks", "things", "first", "second", "values", "ledger"]
theorem sc_are_parted : FnScope N_are_parted ["asks", "things"] (defScope s_are_parted) := ⟨rfl, rfl, rfl, by decide +kernel, rfl, by decide +kernel, by decide +kernel⟩
abbrev s_worst_class : Stmt := top 19
abbrev N_worst_class : List Str := ["depths", "classes", "numbers", "value"]
theorem sc_worst_class : FnScope N_worst_class ["depths", "classes"] (defScope s_worst_class) := ⟨rfl, rfl, rfl, by decide +kernel, rfl, by decide +kernel, by decide +kernel⟩
abbrev s_is_least_depth : Stmt := top 20
abbrev N_is_least_depth : List Str := ["asks", "costs", "depths", "lot", "totals", "number", "classes", "worst"]
theorem sc_is_least_depth : FnScope N_is_least_depth ["asks", "costs", "depths", "lot"] (defScope s_is_least_depth) := ⟨rfl, rfl, rfl, by decide +kernel, rfl, by decide +kernel, by decide +kernel⟩
abbrev s_judge_costs : Stmt := top 21
abbrev N_judge_costs : List Str := ["asks", "costs", "many", "depths", "depth", "lot", "things"]
theorem sc_judge_costs : FnScope N_judge_costs ["asks", "costs", "many", "depths"] (defScope s_judge_costs) := ⟨rfl, rfl, rfl, by decide +kernel, rfl, by decide +kernel, by decide +kernel⟩
abbrev s_judge_depths : Stmt := top 22
abbrev N_judge_depths : List Str := ["asks", "many", "depths", "ask"]
theorem sc_judge_depths : FnScope N_judge_depths ["asks", "many", "depths"] (defScope s_judge_depths) := ⟨rfl, rfl, rfl, by decide +kernel, rfl, by decide +kernel, by decide +kernel⟩
abbrev s_judge_row_depths : Stmt := top 23
abbrev N_judge_row_depths : List Str := ["asks", "many", "depths", "values", "ledger"]
theorem sc_judge_row_depths : FnScope N_judge_row_depths ["asks", "many", "depths"] (defScope s_judge_row_depths) := ⟨rfl, rfl, rfl, by decide +kernel, rfl, by decide +kernel, by decide +kernel⟩
abbrev s_law_truth : Stmt := top 29
abbrev N_law_truth : List Str := ["thing", "waiting", "part"]
theorem sc_law_truth : FnScope N_law_truth ["thing"] (defScope s_law_truth) := ⟨rfl, rfl, rfl, by decide +kernel, rfl, by decide +kernel, by decide +kernel⟩
abbrev s_law_things : Stmt := top 31
abbrev N_law_things : List Str := ["lot", "many", "thing"]
theorem sc_law_things : FnScope N_law_things ["lot", "many"] (defScope s_law_things) := ⟨rfl, rfl, rfl, by decide +kernel, rfl, by decide +kernel, by decide +kernel⟩
abbrev s_law_split : Stmt := top 32
abbrev N_law_split : List Str := ["values", "things", "told", "thing", "value"]
theorem sc_law_split : FnScope N_law_split ["values", "things"] (defScope s_law_split) := ⟨rfl, rfl, rfl, by decide +kernel, rfl, by decide +kernel, by decide +kernel⟩
abbrev s_law_settles : Stmt := top 33
abbrev N_law_settles : List Str := ["told", "rows", "number", "cost", "lots", "lot"]
theorem sc_law_settles : FnScope N_law_settles ["told", "rows", "number"] (defScope s_law_settles) := ⟨rfl, rfl, rfl, by decide +kernel, rfl, by decide +kernel, by decide +kernel⟩
abbrev s_law_layers : Stmt := top 34
abbrev N_law_layers : List Str := ["asks", "costs", "many", "marks", "thing", "values", "ledger", "told", "splits", "waiting", "lot", "things", "rows", "place", "lots", "shown", "mark", "number"]
theorem sc_law_layers : FnScope N_law_layers ["asks", "costs", "many"] (defScope s_law_layers) := ⟨rfl, rfl, rfl, by decide +kernel, rfl, by decide +kernel, by decide +kernel⟩
abbrev s_law_right : Stmt := top 36
abbrev N_law_right : List Str := ["rows", "asks", "many", "due", "values", "ledger", "good", "told"]
theorem sc_law_right : FnScope N_law_right ["rows", "asks", "many"] (defScope s_law_right) := ⟨rfl, rfl, rfl, by decide +kernel, rfl, by decide +kernel, by decide +kernel⟩
abbrev s_law : Stmt := top 37
abbrev N_law : List Str := ["script", "purse", "great", "many", "asks", "rows", "beyond", "low", "thing", "high", "parting"]
theorem sc_law : FnScope N_law ["script"] (defScope s_law) := ⟨rfl, rfl, rfl, by decide +kernel, rfl, by decide +kernel, by decide +kernel⟩
structure Bt (mg : Str → Option Value) : Prop where
  all : mg "all" = none
  any : mg "any" = none
  bool : mg "bool" = none
  int : mg "int" = none
  isinstance : mg "isinstance" = none
  len : mg "len" = none
  list : mg "list" = none
  max : mg "max" = none
  min : mg "min" = none
  range : mg "range" = none
  sorted : mg "sorted" = none
  tuple : mg "tuple" = none
  zip : mg "zip" = none
structure Mg (K : PySem.W.Frag) (mg : Str → Option Value) : Prop where
  MOST_THINGS : ∃ u, mg "MOST_THINGS" = some u ∧ RelV (.int 8) u
structure Rs (P : Program) (w : World) (K : PySem.W.Frag) (mg : Str → Option Value) (base : Heap) : Prop where
  TooMany : MkQ P w K mg base 1 "TooMany" ["limit"]
def tab_TooMany (y : Str) : Option Bool := ([("TooMany", true)] : List (Str × Bool)).lookup y
structure Ys (K : PySem.W.Frag) (mg : Str → Option Value) : Prop where
  cm_TooMany : mg "TooMany" = some (.ref (clsA K "TooMany"))
  ex_TooMany : ∀ y b, tab_TooMany y = some b → PySem.W.exmOne K (.ref (clsA K y)) (.ref (clsA K "TooMany")) = some b
  xf_limit : ∀ y ∈ (["TooMany"] : List Str), XfC K (clsA K y) ∧ PySem.W.findIn K (.ref (clsA K y)) "limit" = some none

def fs_law_mixed : FS := fun vs l Q _ => ∃ a b : Int, vs = [.d (.int a), .d (.int b)] ∧ l = [] ∧ ∀ r : Int, 0 ≤ r → Q (.d (.int r)) []

def fs_law_purse : FS := fun vs l Q _ => ∃ ns : List Int, vs = [.d (.scr (ns.map .int))] ∧ l = [] ∧ ns.length ≤ 63 ∧ ∀ ns' : List Int, ns'.length ≤ 1000 → (∀ n ∈ ns', 0 ≤ n) → Q (.loc 0) [.lst (ns'.map .int)]

def Pur (ns : List Int) : Prop := ns.length ≤ 1000 ∧ ∀ n ∈ ns, 0 ≤ n
def fs_law_take : FS := fun vs l Q _ => ∃ (ns : List Int) (m : Int), vs = [.loc 0, .d (.int m)] ∧ l = [.lst (ns.map .int)] ∧ Pur ns ∧ 1 ≤ m ∧ m < 1073741824 ∧
  ∀ (r : Int) (ns' : List Int), 0 ≤ r → r < m → Pur ns' → Q (.d (.int r)) [.lst (ns'.map .int)]

def fs_law_row : FS := fun vs l Q _ => ∃ (ns : List Int) (k : Nat) (m : Int), vs = [.loc 0, .d (.int k), .d (.int m)] ∧ l = [.lst (ns.map .int)] ∧ Pur ns ∧ k ≤ 1000 ∧ 1 ≤ m ∧ m < 1073741824 ∧
  ∀ (rs ns' : List Int), rs.length = k → (∀ r ∈ rs, 0 ≤ r ∧ r < m) → Pur ns' → Q (.d (.tup (rs.map .int))) [.lst (ns'.map .int)]

def keyN (v : List Nat) : List Key := v.map fun n : Nat => (Sum.inl (n : Int) : Key)
theorem keyN_D (v : List Nat) : (keyN v).map kD = natsD v := by
  unfold keyN natsD
  rw [List.map_map]
  rfl
theorem ints_nat : ∀ {rs : List Int}, (∀ x ∈ rs, 0 ≤ x) → ∃ v : List Nat, rs.map D.int = natsD v
  | [], _ => ⟨[], rfl⟩
  | x :: rs, h => by
    obtain ⟨v, hv⟩ := ints_nat (rs := rs) fun y hy => h y (List.mem_cons_of_mem _ hy)
    refine ⟨x.toNat :: v, ?_⟩
    rw [List.map_cons, hv]
    show _ = D.int _ :: _
    rw [Int.toNat_of_nonneg (h x (by simp))]
    rfl
theorem keyL_nats : ∀ v : List Nat, keyL (natsD v) = some (keyN v)
  | [] => rfl
  | x :: v => by
    show keyL (D.int x :: natsD v) = _
    rw [keyL, keyL_nats v]
    rfl
theorem putD_len {κ : Type} [DecidableEq κ] {kvs : List (κ × D)} {k : κ} {y : D} : (putD kvs k y).length ≤ kvs.length + 1 ∧ ∀ q ∈ putD kvs k y, q.1 = k ∨ ∃ q' ∈ kvs, q.1 = q'.1 := by
  unfold putD
  split
  · refine ⟨by simp, fun q hq => ?_⟩
    obtain ⟨q', h1, rfl⟩ := List.mem_map.mp hq
    by_cases e : q'.1 = k
    · simp [e]
    · simp only [e, if_false]
      exact .inr ⟨q', h1, rfl⟩
  · refine ⟨by simp, fun q hq => ?_⟩
    rcases List.mem_append.mp hq with h | h
    · exact .inr ⟨q, h, rfl⟩
    · rw [List.mem_singleton.mp h]
      exact .inl rfl
theorem im_list {α β : Type} {f : α → β} {P : α → Prop} : ∀ {zs : List β}, (∀ z ∈ zs, ∃ v, z = f v ∧ P v) → ∃ vs : List α, zs = vs.map f ∧ ∀ v ∈ vs, P v
  | [], _ => ⟨[], rfl, fun v h => absurd h List.not_mem_nil⟩
  | z :: zs, h => by
    obtain ⟨v, rfl, hv⟩ := h z (by simp)
    obtain ⟨vs, rfl, hvs⟩ := im_list (zs := zs) fun y hy => h y (List.mem_cons_of_mem _ hy)
    exact ⟨v :: vs, rfl, fun x hx => by
      rcases List.mem_cons.mp hx with e | e
      · rw [e]; exact hv
      · exact hvs x e⟩
abbrev lenD (v : List Nat) : D := .tup [.int (v.length : Int), .tup (natsD v)]
theorem alike_nats : ∀ a b : List Nat, PySem.W.alikeAll (D.pys (natsD a)) (D.pys (natsD b)) = true
  | [], [] => rfl
  | [], _ :: _ => rfl
  | _ :: _, [] => rfl
  | x :: a, y :: b => by
    show PySem.W.alikeAll (D.py (.int x) :: D.pys (natsD a)) (D.py (.int y) :: D.pys (natsD b)) = true
    rw [PySem.W.alikeAll, alike_nats a b]
    rfl
theorem srt_len (vs : List (List Nat)) : okSrt (vs.map lenD) := by
  refine ⟨fun x hx => ?_, fun x hx y hy => ?_, .inl fun x hx => ?_⟩
  · obtain ⟨v, _, rfl⟩ := List.mem_map.mp hx
    refine dOk_tup.mpr fun y hy => ?_
    simp only [List.mem_cons, List.not_mem_nil, or_false] at hy
    rcases hy with rfl | rfl
    · exact dOk_int.mpr trivial
    · refine dOk_tup.mpr fun z hz => ?_
      obtain ⟨m, _, rfl⟩ := List.mem_map.mp hz
      exact dOk_int.mpr trivial
  · obtain ⟨v, _, rfl⟩ := List.mem_map.mp hx
    obtain ⟨u, _, rfl⟩ := List.mem_map.mp hy
    show PySem.W.alike (.tuple [.int v.length, .tuple (D.pys (natsD v))]) (.tuple [.int u.length, .tuple (D.pys (natsD u))]) = true
    simp only [PySem.W.alike, PySem.W.alikeAll, alike_nats, Bool.and_true, Bool.true_and]
  · obtain ⟨v, _, rfl⟩ := List.mem_map.mp hx
    exact ⟨_, _, rfl⟩
abbrev askD (a : List Nat × List Nat) : D := .tup [.tup (natsD a.1), .tup (natsD a.2)]
def fs_law_asks : FS := fun vs l Q _ => ∃ (ns : List Int) (n m : Nat), vs = [.loc 0, .d (.int n), .d (.int m)] ∧ l = [.lst (ns.map .int)] ∧ Pur ns ∧ 1 ≤ n ∧ n ≤ 8 ∧ m ≤ 10 ∧
  ∀ (As : AskL) (ns' : List Int), As.length ≤ 20 → (∀ a ∈ As, a.1.length = n ∧ 1 ≤ a.2.length ∧ a.2.length ≤ 100) → Pur ns' → Q (.d (asksD As)) [.lst (ns'.map .int)]

def fs_members : FS := fun vs l Q _ => ∃ lot : Nat, vs = [.d (.int lot)] ∧ l = [] ∧ lot < 2 ^ 8 ∧ Q (.d (.tup (natsD (bits 8 lot)))) []

def fs_classes_by : FS := fun vs l Q _ => ∃ (v : List Nat) (lot : Nat), vs = [.d (.tup (natsD v)), .d (.int lot)] ∧ l = [] ∧ lot < 2 ^ 8 ∧ (∀ t ∈ bits 8 lot, t < v.length) ∧ Q (.d (dkD (clsL v (bits 8 lot)))) []

def optD : Option Nat → D
  | some n => .int n
  | none => .non
def fs_worst_of : FS := fun vs l Q _ => ∃ (ds : List (Option Nat)) (kvs : List (Nat × Nat)), vs = [.loc 0, .d (.dk ((kvD kvs).map (·.1)) ((kvD kvs).map (·.2)))] ∧ l = [.lst (ds.map optD)] ∧ (kvs.map (·.1)).Nodup ∧ (∀ q ∈ kvs, q.2 < ds.length) ∧
  Q (.d (optD (worst (fun m => ds.getD m none) (kvs.map (·.2))))) [.lst (ds.map optD)]

def fs_best_at : FS := fun vs l Q _ => ∃ (As : AskL) (cs : List Nat) (ds : List (Option Nat)) (lot : Nat), vs = [.d (asksD As), .d (.lst (natsD cs)), .loc 0, .d (.int lot)] ∧ l = [.lst (ds.map optD)] ∧ cs.length = As.length ∧ As.length ≤ 100 ∧ lot < 2 ^ 8 ∧ ds.length = lot ∧ (∀ a ∈ As, ∀ t ∈ bits 8 lot, t < a.1.length) ∧
  ∀ c : D, Q (.d (.tup [optD (best 8 (fun m => ds.getD m none) (mkA As cs) lot), c])) [.lst (ds.map optD)]

def fs_solved : FS := fun vs l Q E => ∃ (As : AskL) (cs : List Nat) (n : Nat), vs = [.d (asksD As), .d (.lst (natsD cs)), .d (.int n)] ∧ l = [] ∧ cs.length = As.length ∧ As.length ≤ 100 ∧ (∀ a ∈ As, a.1.length = n) ∧
  (n ≤ 8 → ∀ fs : List D, Q (.d (.tup [.lst ((depL 8 (mkA As cs) (2 ^ n)).map optD), .lst fs])) []) ∧ (8 < n → ∀ l', E (.own "TooMany" ["limit"] [.int 8]) l')

def ones (As : AskL) : List Nat := As.map fun _ => 1
def lens (As : AskL) : List Nat := As.map fun a => a.2.length
def fs_ask_depths : FS := fun vs l Q E => ∃ (As : AskL) (n : Nat), vs = [.d (asksD As), .d (.int n)] ∧ l = [] ∧ As.length ≤ 100 ∧ (∀ a ∈ As, a.1.length = n) ∧
  (n ≤ 8 → Q (.d (.tup ((depL 8 (mkA As (ones As)) (2 ^ n)).map optD))) []) ∧ (8 < n → ∀ l', E (.own "TooMany" ["limit"] [.int 8]) l')

def fs_row_depths : FS := fun vs l Q E => ∃ (As : AskL) (n : Nat), vs = [.d (asksD As), .d (.int n)] ∧ l = [] ∧ As.length ≤ 100 ∧ (∀ a ∈ As, a.1.length = n) ∧
  (n ≤ 8 → Q (.d (.tup ((depL 8 (mkA As (lens As)) (2 ^ n)).map optD))) []) ∧ (8 < n → ∀ l', E (.own "TooMany" ["limit"] [.int 8]) l')

def fs_law_told : FS := fun vs l Q _ => ∃ (b : Bool) (As : AskL) (n : Nat), vs = [.d (.bl b), .d (asksD As), .d (.int n)] ∧ l = [] ∧ As.length ≤ 100 ∧ (∀ a ∈ As, a.1.length = n) ∧
  (n ≤ 8 → Q (.d (.tup [.bl true, .tup ((depL 8 (mkA As (if b = true then lens As else ones As)) (2 ^ n)).map optD)])) []) ∧ (8 < n → Q (.d (.tup [.bl false, .int 8])) [])

def fs_is_number : FS := fun vs l Q _ => ∃ a : Int, vs = [.d (.int a)] ∧ l = [] ∧ Q (.d (.bl true)) []

def fs_is_tuple_of : FS := fun vs l Q _ => ∃ (xs : List D) (m : Int), vs = [.d (.tup xs), .d (.int m)] ∧ l = [] ∧ Q (.d (.bl (decide ((xs.length : Int) = m)))) []

def fs_are_parted : FS := fun vs l Q _ => ∃ (As : AskL) (ts : List Nat), vs = [.d (asksD As), .d (.tup (natsD ts))] ∧ l = [] ∧ As.length ≤ 100 ∧ ts.length ≤ 8 ∧ (∀ a ∈ As, ∀ t ∈ ts, t < a.1.length) ∧
  Q (.d (.bl (ts.all fun t => ts.all fun u => !decide (t < u) || As.any fun a => decide (val a.1 t ≠ val a.1 u)))) []

theorem opt_eqv (o : Option Nat) : (optD o).eqv .non = o.isNone := by cases o <;> simp [optD, D.eqv, D.py, PyData.eqv]
theorem dOk_opt {n : Nat} (o : Option Nat) : dOk n (optD o) := by cases o <;> simp [optD, dOk_int, dOk_non]
theorem worst_any {d : Nat → Option Nat} {ms : List Nat} (h : ((ms.map fun m => optD (d m)).any fun z => z.eqv .non) = true) : worst d ms = none := by
  obtain ⟨x, hx, e⟩ := List.any_eq_true.mp h
  obtain ⟨m, hm, rfl⟩ := List.mem_map.mp hx
  rw [opt_eqv, Option.isNone_iff_eq_none] at e
  cases w : worst d ms with
  | none => rfl
  | some b =>
    have := (worst_le d ms b).mp (by rw [w]; exact le_some.mpr (Nat.le_refl _)) m hm
    rw [e] at this
    exact absurd this le_none
theorem worst_all {d : Nat → Option Nat} {ms : List Nat} (h : ¬ ((ms.map fun m => optD (d m)).any fun z => z.eqv .non) = true) : (ms.map fun m => optD (d m)) = (ms.map fun m => (((d m).getD 0 : Nat) : Int)).map D.int ∧
    ∀ m ∈ (ms.map fun m => (((d m).getD 0 : Nat) : Int)), (∀ y ∈ (ms.map fun m => (((d m).getD 0 : Nat) : Int)), y ≤ m) → ∃ w : Nat, worst d ms = some w ∧ m = (w : Int) := by
  have hs : ∀ m ∈ ms, ∃ b, d m = some b := fun m hm => by
    cases e : d m with
    | some b => exact ⟨b, rfl⟩
    | none => exact absurd (List.any_eq_true.mpr ⟨_, List.mem_map.mpr ⟨m, hm, rfl⟩, by rw [opt_eqv, e]; rfl⟩) h
  refine ⟨?_, fun m hm hy => ?_⟩
  · rw [List.map_map]
    apply List.map_congr_left
    intro m hm
    obtain ⟨b, e⟩ := hs m hm
    show optD (d m) = D.int (((d m).getD 0 : Nat) : Int)
    rw [e]
    rfl
  · obtain ⟨m0, hm0, rfl⟩ := List.mem_map.mp hm
    refine ⟨(d m0).getD 0, opt_ext fun k => ?_, rfl⟩
    rw [worst_le, le_some]
    obtain ⟨b0, e0⟩ := hs m0 hm0
    constructor
    · intro q
      have := q m0 hm0
      rw [e0] at this ⊢
      exact le_some.mp this
    · intro q m1 hm1
      obtain ⟨b1, e1⟩ := hs m1 hm1
      have := hy _ (List.mem_map.mpr ⟨m1, hm1, rfl⟩)
      rw [e1] at this ⊢
      simp only [Option.getD_some] at this
      exact le_some.mpr (by omega)
def fs_worst_class : FS := fun vs l Q _ => ∃ (ds : List (Option Nat)) (kvs : List (Nat × Nat)), vs = [.d (.tup (ds.map optD)), .d (dkD kvs)] ∧ l = [] ∧ (kvs.map (·.1)).Nodup ∧ kvs ≠ [] ∧ kvs.length ≤ 100 ∧ (∀ q ∈ kvs, q.2 < ds.length) ∧
  Q (.d (optD (worst (fun m => ds.getD m none) (kvs.map (·.2))))) []

def tot (n : Nat) (dep : Nat → Option Nat) (lot : Nat) (a : Ask) : Option Nat := if (cm n a lot).length < 2 then none else (worst dep (cm n a lot)).map (· + a.2)
def tots (n : Nat) (dep : Nat → Option Nat) (asks : List Ask) (lot : Nat) : List Nat := asks.filterMap (tot n dep lot)
theorem tots_app (n : Nat) (dep : Nat → Option Nat) (asks : List Ask) (a : Ask) (lot : Nat) : tots n dep (asks ++ [a]) lot = tots n dep asks lot ++ (tot n dep lot a).toList := by
  unfold tots
  rw [List.filterMap_append]
  cases e : tot n dep lot a <;> simp [e]
theorem tots_le {n : Nat} {dep : Nat → Option Nat} {asks : List Ask} {lot k : Nat} : le (best n dep asks lot) k ↔ ∃ t ∈ tots n dep asks lot, t ≤ k := by
  rw [best_le]
  constructor
  · rintro ⟨a, ha, h2, w, hw, hk⟩
    refine ⟨w + a.2, List.mem_filterMap.mpr ⟨a, ha, ?_⟩, hk⟩
    unfold tot
    rw [if_neg (by omega), hw]
    rfl
  · rintro ⟨t, ht, hk⟩
    obtain ⟨a, ha, e⟩ := List.mem_filterMap.mp ht
    unfold tot at e
    by_cases h2 : (cm n a lot).length < 2
    · rw [if_pos h2] at e
      cases e
    · rw [if_neg h2] at e
      obtain ⟨w, hw, rfl⟩ := Option.map_eq_some_iff.mp e
      exact ⟨a, ha, by omega, w, hw, hk⟩
theorem tots_nil {n : Nat} {dep : Nat → Option Nat} {asks : List Ask} {lot : Nat} (h : tots n dep asks lot = []) : best n dep asks lot = none := by
  refine opt_ext fun k => ?_
  rw [tots_le, h]
  exact ⟨fun ⟨t, ht, _⟩ => by simp at ht, fun z => absurd z le_none⟩
theorem tots_min {n : Nat} {dep : Nat → Option Nat} {asks : List Ask} {lot m : Nat} (hm : m ∈ tots n dep asks lot) (hy : ∀ y ∈ tots n dep asks lot, m ≤ y) : best n dep asks lot = some m := by
  refine opt_ext fun k => ?_
  rw [tots_le, le_some]
  exact ⟨fun ⟨t, ht, hk⟩ => Nat.le_trans (hy t ht) hk, fun h => ⟨m, hm, h⟩⟩
def sameO : Option Nat → Option Nat → Bool
  | some a, some b => decide (a = b)
  | _, _ => false
def fs_is_least_depth : FS := fun vs l Q _ => ∃ (As : AskL) (cs : List Nat) (ds : List (Option Nat)) (lot : Nat), vs = [.d (asksD As), .d (.lst (natsD cs)), .d (.tup (ds.map optD)), .d (.int lot)] ∧ l = [] ∧ cs.length = As.length ∧ As.length ≤ 100 ∧ lot < 2 ^ 8 ∧ lot < ds.length ∧ (∀ a ∈ As, ∀ t ∈ bits 8 lot, t < a.1.length) ∧
  Q (.d (.bl (sameO (best 8 (fun m => ds.getD m none) (mkA As cs) lot) (ds.getD lot none)))) []

theorem le_sum_mem : ∀ {cs : List Nat} {c : Nat}, c ∈ cs → c ≤ cs.sum
  | a :: r, c, h => by
    rw [List.sum_cons]
    rcases List.mem_cons.mp h with e | e
    · omega
    · have := le_sum_mem e
      omega
theorem mkA_fst {As : AskL} {cs : List Nat} (h : cs.length = As.length) : (mkA As cs).map (·.1) = As.map (·.1) := by
  unfold mkA
  exact List.map_fst_zip (by rw [List.length_map, h]; exact Nat.le_refl _)
theorem alike_mk {As : AskL} {cs : List Nat} (h : cs.length = As.length) {t u : Nat} : alike (mkA As cs) t u ↔ ∀ a ∈ As, val a.1 t = val a.1 u := by
  have e := mkA_fst h
  constructor
  · intro q a ha
    have : a.1 ∈ (mkA As cs).map (·.1) := by rw [e]; exact List.mem_map.mpr ⟨a, ha, rfl⟩
    obtain ⟨b, hb, e2⟩ := List.mem_map.mp this
    rw [← e2]
    exact q b hb
  · intro q b hb
    have : b.1 ∈ As.map (·.1) := by rw [← e]; exact List.mem_map.mpr ⟨b, hb, rfl⟩
    obtain ⟨a, ha, e2⟩ := List.mem_map.mp this
    rw [← e2]
    exact q a ha
theorem parted_bool {As : AskL} {cs : List Nat} (h : cs.length = As.length) {lot : Nat} : ((bits 8 lot).all fun t => (bits 8 lot).all fun u => !decide (t < u) || As.any fun a => decide (val a.1 t ≠ val a.1 u)) = true ↔ parted 8 (mkA As cs) lot := by
  constructor
  · intro q t ht u hu ha
    have q2 : ∀ t ∈ bits 8 lot, ∀ u ∈ bits 8 lot, alike (mkA As cs) t u → ¬ t < u := fun t ht u hu ha hlt => by
      have := List.all_eq_true.mp (List.all_eq_true.mp q t ht) u hu
      rw [decide_eq_true hlt, Bool.not_true, Bool.false_or] at this
      obtain ⟨a, hm, e⟩ := List.any_eq_true.mp this
      exact (of_decide_eq_true e) ((alike_mk h).mp ha a hm)
    have h1 := q2 t ht u hu ha
    have h2 := q2 u hu t ht fun a hm => (ha a hm).symm
    omega
  · intro q
    refine List.all_eq_true.mpr fun t ht => List.all_eq_true.mpr fun u hu => ?_
    by_cases hlt : t < u
    · rw [decide_eq_true hlt, Bool.not_true, Bool.false_or]
      refine Classical.byContradiction fun hc => ?_
      have : t = u := q t ht u hu ((alike_mk h).mpr fun a hm => Classical.byContradiction fun z => hc (List.any_eq_true.mpr ⟨a, hm, decide_eq_true z⟩))
      omega
    · rw [decide_eq_false hlt]
      rfl
theorem mkA_cost {As : AskL} {cs : List Nat} {C : Nat} (h : ∀ c ∈ cs, c ≤ C) : ∀ a ∈ mkA As cs, a.2 ≤ C := fun a ha => h _ (List.of_mem_zip ha).2
def fs_judge_costs : FS := fun vs l Q _ => ∃ (As : AskL) (cs : List Nat) (n : Nat), vs = [.d (asksD As), .d (.lst (natsD cs)), .d (.int n), .d (.tup ((depL 8 (mkA As cs) (2 ^ n)).map optD))] ∧ l = [] ∧ cs.length = As.length ∧ As.length ≤ 100 ∧ n ≤ 8 ∧ (∀ a ∈ As, a.1.length = n) ∧
  Q (.d (.bl true)) []

def fs_judge_depths : FS := fun vs l Q _ => ∃ (As : AskL) (n : Nat), vs = [.d (asksD As), .d (.int n), .d (.tup ((depL 8 (mkA As (ones As)) (2 ^ n)).map optD))] ∧ l = [] ∧ As.length ≤ 100 ∧ n ≤ 8 ∧ (∀ a ∈ As, a.1.length = n) ∧
  Q (.d (.bl true)) []

def fs_judge_row_depths : FS := fun vs l Q _ => ∃ (As : AskL) (n : Nat), vs = [.d (asksD As), .d (.int n), .d (.tup ((depL 8 (mkA As (lens As)) (2 ^ n)).map optD))] ∧ l = [] ∧ As.length ≤ 100 ∧ n ≤ 8 ∧ (∀ a ∈ As, a.1.length = n) ∧
  Q (.d (.bl true)) []

def fs_law_truth : FS := fun vs l Q _ => ∃ d : D, vs = [.d d] ∧ l = [] ∧ noB d ∧ d.sz ≤ 100000 ∧ Q (.d (.bl false)) []

theorem bits_ext {n lot : Nat} (hn : n ≤ 8) (h : lot < 2 ^ n) : bits 8 lot = bits n lot := by
  unfold bits
  rw [show (8 : Nat) = n + (8 - n) by omega, List.range_add, List.filter_append]
  have : ((List.range (8 - n)).map (n + ·)).filter (fun t => lot.testBit t) = [] := by
    rw [List.filter_eq_nil_iff]
    intro t ht
    obtain ⟨u, _, rfl⟩ := List.mem_map.mp ht
    rw [Bool.not_eq_true]
    exact Nat.testBit_lt_two_pow (Nat.lt_of_lt_of_le h (Nat.pow_le_pow_right (by decide) (by omega)))
  rw [this, List.append_nil]
def fs_law_things : FS := fun vs l Q _ => ∃ (lot n : Nat), vs = [.d (.int lot), .d (.int n)] ∧ l = [] ∧ n ≤ 8 ∧ lot < 2 ^ n ∧ Q (.d (.lst (natsD (bits 8 lot)))) []

def toN : D → Nat
  | .int i => i.toNat
  | _ => 0
theorem perm_nats {xs : List D} {ys : List Nat} (h : xs.Perm (natsD ys)) : ∃ zs, xs = natsD zs ∧ zs.Perm ys := by
  refine ⟨xs.map toN, ?_, ?_⟩
  · unfold natsD
    rw [List.map_map]
    have : ∀ x ∈ xs, ((fun n : Nat => D.int (n : Int)) ∘ toN) x = id x := fun x hx => by
      obtain ⟨n, _, rfl⟩ := List.mem_map.mp (h.mem_iff.mp hx)
      simp [toN]
    rw [List.map_congr_left this, List.map_id]
  · have := h.map toN
    have e : (natsD ys).map toN = ys := by
      unfold natsD
      rw [List.map_map]
      have : ∀ x ∈ ys, (toN ∘ fun n : Nat => D.int (n : Int)) x = id x := fun x hx => by simp [toN]
      rw [List.map_congr_left this, List.map_id]
    rw [e] at this
    exact this
def fs_law_split : FS := fun vs l Q _ => ∃ (v ts : List Nat), vs = [.d (.tup (natsD v)), .d (.lst (natsD ts))] ∧ l = [] ∧ ts.length ≤ 8 ∧ (∀ t ∈ ts, t < v.length ∧ t < 8) ∧ ∀ ms : List Nat, ms.length = (clsL v ts).length → (∀ m, m ∈ ms ↔ m ∈ (clsL v ts).map (·.2)) → Q (.d (.lst (natsD ms))) []

abbrev rowsD (rws : List (Nat × List Nat)) : D := .lst (rws.map fun r => .tup [.int (r.1 : Int), .lst (natsD r.2)])
def setB (ds : List (Option Nat)) (k : Nat) (r : Nat × List Nat) (m : Nat) : Bool := match ds.getD m none with
  | some b => decide (b + r.1 ≤ k)
  | none => false
def fs_law_settles : FS := fun vs l Q _ => ∃ (ds : List (Option Nat)) (rws : List (Nat × List Nat)) (k : Nat), vs = [.loc 0, .d (rowsD rws), .d (.int k)] ∧ l = [.lst (ds.map optD)] ∧ (∀ r ∈ rws, r.2.length ≤ 100 ∧ ∀ m ∈ r.2, m < ds.length) ∧
  Q (.d (.bl (rws.any fun r => r.2.all (setB ds k r)))) [.lst (ds.map optD)]

def markN (As : AskL) (t : Nat) : List Nat := As.map fun a => val a.1 t
def partB (As : AskL) (lot : Nat) : Bool := (bits 8 lot).all fun t => (bits 8 lot).all fun u => !decide (t < u) || As.any fun a => decide (val a.1 t ≠ val a.1 u)
def wantB (As : AskL) (lot : Nat) : Bool := decide (1 < (bits 8 lot).length) && partB As lot
def told0 (i : Nat) : List (Option Nat) := (List.range i).map fun m => if (bits 8 m).length < 2 then some 0 else none
def RowsP (asks : List Ask) (lot : Nat) (rws : List (Nat × List Nat)) : Prop :=
  rws.length ≤ asks.length ∧ (∀ r ∈ rws, ∃ a ∈ asks, 2 ≤ (cm 8 a lot).length ∧ r.1 = a.2 ∧ r.2.length = (cm 8 a lot).length ∧ ∀ m, m ∈ r.2 ↔ m ∈ cm 8 a lot) ∧
  ∀ a ∈ asks, 2 ≤ (cm 8 a lot).length → ∃ r ∈ rws, r.1 = a.2 ∧ ∀ m, m ∈ r.2 ↔ m ∈ cm 8 a lot
theorem RowsP.skip {asks : List Ask} {lot : Nat} {rws : List (Nat × List Nat)} {a : Ask} (h : RowsP asks lot rws) (ha : ¬ 2 ≤ (cm 8 a lot).length) : RowsP (asks ++ [a]) lot rws := by
  refine ⟨by rw [List.length_append]; have := h.1; simp only [List.length_cons, List.length_nil]; omega, fun r hr => ?_, fun b hb h2 => ?_⟩
  · obtain ⟨b, hb, q⟩ := h.2.1 r hr
    exact ⟨b, List.mem_append_left _ hb, q⟩
  · rcases List.mem_append.mp hb with hb | hb
    · exact h.2.2 b hb h2
    · rw [List.mem_singleton.mp hb] at h2
      exact absurd h2 ha
theorem RowsP.add {asks : List Ask} {lot : Nat} {rws : List (Nat × List Nat)} {a : Ask} {ms : List Nat} (h : RowsP asks lot rws) (ha : 2 ≤ (cm 8 a lot).length) (hl : ms.length = (cm 8 a lot).length) (hm : ∀ m, m ∈ ms ↔ m ∈ cm 8 a lot) : RowsP (asks ++ [a]) lot (rws ++ [(a.2, ms)]) := by
  refine ⟨by rw [List.length_append, List.length_append]; have := h.1; simp only [List.length_cons, List.length_nil]; omega, fun r hr => ?_, fun b hb h2 => ?_⟩
  · rcases List.mem_append.mp hr with hr | hr
    · obtain ⟨b, hb, q⟩ := h.2.1 r hr
      exact ⟨b, List.mem_append_left _ hb, q⟩
    · rw [List.mem_singleton.mp hr]
      exact ⟨a, by simp, ha, rfl, hl, hm⟩
  · rcases List.mem_append.mp hb with hb | hb
    · obtain ⟨r, hr, q⟩ := h.2.2 b hb h2
      exact ⟨r, List.mem_append_left _ hr, q⟩
    · rw [List.mem_singleton.mp hb]
      exact ⟨(a.2, ms), by simp, rfl, hm⟩
theorem RowsP.nil {lot : Nat} : RowsP [] lot [] := ⟨Nat.le_refl _, fun r h => by simp at h, fun a h => by simp at h⟩
theorem mark_iff {As : AskL} {t u : Nat} : markN As t = markN As u ↔ ∀ a ∈ As, val a.1 t = val a.1 u := by
  unfold markN
  exact List.map_inj_left
theorem mark_eqv {As : AskL} {t u : Nat} : (D.tup (natsD (markN As u))).eqv (D.tup (natsD (markN As t))) = decide (markN As u = markN As t) := by
  have inj : ∀ a b : List Nat, natsD a = natsD b ↔ a = b := fun a b => by
    refine ⟨fun h => ?_, fun h => by rw [h]⟩
    have : (natsD a).map toN = (natsD b).map toN := by rw [h]
    have e : ∀ ys : List Nat, (natsD ys).map toN = ys := fun ys => by
      unfold natsD
      rw [List.map_map]
      have : ∀ x ∈ ys, (toN ∘ fun n : Nat => D.int (n : Int)) x = id x := fun x hx => by simp [toN]
      rw [List.map_congr_left this, List.map_id]
    rw [e, e] at this
    exact this
  have nb : ∀ ys : List Nat, noB (D.tup (natsD ys)) := fun ys => by
    simp only [noB, natsD]
    intro x hx
    obtain ⟨n, _, rfl⟩ := List.mem_map.mp hx
    simp [noB]
  rw [Bool.eq_iff_iff, D.eqv_iff (nb _) (nb _), decide_eq_true_eq, D.tup.injEq, inj]
theorem count_one {ts : List Nat} {p : Nat → Bool} {t : Nat} (nd : ts.Nodup) (ht : t ∈ ts) (hp : p t = true) : ts.countP p = 1 ↔ ∀ u ∈ ts, p u = true → u = t := by
  rw [List.countP_eq_length_filter]
  have nf : (ts.filter p).Nodup := nd.filter p
  have hm : t ∈ ts.filter p := List.mem_filter.mpr ⟨ht, hp⟩
  constructor
  · intro h u hu hpu
    obtain ⟨x, hx⟩ := List.length_eq_one_iff.mp h
    have h2 : u ∈ ts.filter p := List.mem_filter.mpr ⟨hu, hpu⟩
    rw [hx] at hm h2
    rw [List.mem_singleton.mp h2, List.mem_singleton.mp hm]
  · intro h
    have : ∀ u ∈ ts.filter p, u = t := fun u hu => h u (List.mem_filter.mp hu).1 (List.mem_filter.mp hu).2
    match hf : ts.filter p, nf, hm, this with
    | [x], _, _, _ => rfl
    | [], _, hm, _ => simp at hm
    | x :: y :: r, nf, _, this =>
      have e1 := this x (by simp)
      have e2 := this y (by simp)
      rw [e1, e2] at nf
      simp at nf
theorem cnt_eq (As : AskL) (ts : List Nat) (t : Nat) : ((ts.map fun u => D.tup (natsD (markN As u))).countP fun z => z.eqv (D.tup (natsD (markN As t)))) = ts.countP fun u => decide (markN As u = markN As t) := by
  rw [List.countP_map]
  congr 1
  funext u
  exact mark_eqv
theorem part_cnt {As : AskL} {lot : Nat} : ((bits 8 lot).all fun t => decide (((bits 8 lot).countP fun u => decide (markN As u = markN As t)) = 1)) = partB As lot := by
  rw [Bool.eq_iff_iff]
  have hp := parted_bool (As := As) (cs := As.map fun _ => 0) (by simp) (lot := lot)
  have hp : partB As lot = true ↔ _ := hp
  rw [hp, List.all_eq_true]
  have al := fun t u => alike_mk (As := As) (cs := As.map fun _ => 0) (by simp) (t := t) (u := u)
  constructor
  · intro h t ht u hu ha
    have := of_decide_eq_true (h t ht)
    exact ((count_one (bits_nd _ _) ht (by simp)).mp this u hu (decide_eq_true (mark_iff.mpr fun a hm => ((al t u).mp ha a hm).symm))).symm
  · intro h t ht
    refine decide_eq_true ((count_one (bits_nd _ _) ht (by simp)).mpr fun u hu e => ?_)
    exact (h t ht u hu ((al t u).mpr fun a hm => (mark_iff.mp (of_decide_eq_true e) a hm).symm)).symm
theorem if_to {c : Prop} [Decidable c] {X Y Z : Prop} (h1 : c → X = Z) (h2 : ¬ c → Y = Z) (z : Z) : if c then X else Y := by
  by_cases h : c
  · rw [if_pos h, h1 h]; exact z
  · rw [if_neg h, h2 h]; exact z
abbrev rowD (r : Nat × List Nat) : D := .tup [.int (r.1 : Int), .lst (natsD r.2)]
theorem want_iff {As : AskL} {cs : List Nat} (h : cs.length = As.length) {lot : Nat} : wantB As lot = true ↔ 1 < (bits 8 lot).length ∧ parted 8 (mkA As cs) lot := by
  unfold wantB
  rw [Bool.and_eq_true, decide_eq_true_eq, ← parted_bool h]
  exact Iff.rfl
theorem rows_settle {A : List Ask} {lot K : Nat} {rws : List (Nat × List Nat)} {told : List (Option Nat)} (h : RowsP A lot rws) : (rws.any fun r => r.2.all (setB told K r)) = true ↔ settles 8 (fun m => told.getD m none) A lot K := by
  have hb : ∀ (r : Nat × List Nat) (m : Nat), setB told K r m = true ↔ ∃ b, told.getD m none = some b ∧ b + r.1 ≤ K := fun r m => by
    unfold setB
    cases told.getD m none with
    | none => simp
    | some b => simp
  rw [List.any_eq_true]
  constructor
  · rintro ⟨r, hr, q⟩
    obtain ⟨a, ha, g2, g3, _, g4⟩ := h.2.1 r hr
    refine ⟨a, ha, g2, fun m hm => ?_⟩
    rw [← g3]
    exact (hb r m).mp (List.all_eq_true.mp q m ((g4 m).mpr hm))
  · rintro ⟨a, ha, g2, q⟩
    obtain ⟨r, hr, g3, g4⟩ := h.2.2 a ha g2
    refine ⟨r, hr, List.all_eq_true.mpr fun m hm => (hb r m).mpr ?_⟩
    rw [g3]
    exact q m ((g4 m).mp hm)
theorem upto_stay {n : Nat} {A : List Ask} {k : Nat} {m : Nat} (hm : m < 2 ^ n) (hw : (1 < (bits n m).length ∧ parted n A m) → upto (dep n A) k m ≠ none) : upto (dep n A) k m = upto (dep n A) (k + 1) m := by
  by_cases hp : parted n A m
  · by_cases hl : 1 < (bits n m).length
    · cases e : upto (dep n A) k m with
      | none => exact absurd e (hw ⟨hl, hp⟩)
      | some b =>
        obtain ⟨e1, e2⟩ := upto_some.mp e
        exact (upto_some.mpr ⟨e1, by omega⟩).symm
    · have e := dep_small (asks := A) (show (bits n m).length < 2 by omega)
      rw [upto_some.mpr ⟨e, Nat.zero_le _⟩, upto_some.mpr ⟨e, Nat.zero_le _⟩]
  · have e := dep_none m hm hp
    have h1 : ∀ k, upto (dep n A) k m = none := fun k => upto_none.mpr (by rw [e]; exact le_none)
    rw [h1, h1]
def fs_law_layers : FS := fun vs l Q _ => ∃ (As : AskL) (cs : List Nat) (n : Nat), vs = [.d (asksD As), .d (.lst (natsD cs)), .d (.int n)] ∧ l = [] ∧ cs.length = As.length ∧ As.length ≤ 100 ∧ n ≤ 8 ∧ (∀ a ∈ As, a.1.length = n) ∧ (∀ c ∈ cs, 1 ≤ c ∧ c ≤ 100) ∧
  Q (.d (.tup ((depL 8 (mkA As cs) (2 ^ n)).map optD))) []

theorem szs_opt : ∀ ds : List (Option Nat), D.szs (ds.map optD) = ds.length
  | [] => rfl
  | o :: r => by
    rw [List.map_cons, D.szs, szs_opt r, List.length_cons]
    cases o <;> simp [optD, D.sz] <;> omega
def fs_law_right : FS := fun vs l Q _ => ∃ (b : Bool) (As : AskL) (n : Nat), vs = [.d (.bl b), .d (asksD As), .d (.int n)] ∧ l = [] ∧ As.length ≤ 100 ∧ n ≤ 8 ∧ (∀ a ∈ As, a.1.length = n ∧ 1 ≤ a.2.length ∧ a.2.length ≤ 100) ∧ Q (.d (.bl true)) []

def fs_law : FS := fun vs l Q _ => ∃ ns : List Int, vs = [.d (.scr (ns.map .int))] ∧ l = [] ∧ ns.length ≤ 63 ∧ Q (.d (.bl true)) []
theorem fs_end (ns : List Int) (h : ns.length ≤ 63) : fs_law [.d (.scr (ns.map .int))] [] endD endX := ⟨ns, rfl, rfl, h, rfl⟩
section
variable {P : Program} {w : World} {K : PySem.W.Frag} {mg : Str → Option Value} {base : Heap}
structure Cs (P : Program) (w : World) (K : PySem.W.Frag) (mg : Str → Option Value) (base : Heap) : Prop where
  u : True
theorem ok_law_mixed {f : Addr} {fd : FuncData} (F : Fun K "_law_mixed" "_law_mixed" s_law_mixed f fd) (B : Bt mg) : FnOk P w K mg base (L2N.CX P w) 1 f fd ["number", "place"] (spQ K 2 fs_law_mixed) := by
  have nd := sc_law_mixed.nd
  refine fun_q (k := 0) F sc_law_mixed 2 rfl (fun cdv A outer s H E hr tk => (qss_cons (qs_set (i := 2) nd rfl (by first | exact Or.inl rfl | exact Or.inr rfl) qe_int)
    (qss_cons (qs_set (i := 3) nd rfl (by first | exact Or.inl rfl | exact Or.inr rfl) (qe_op op_mod ref_II (qe_callTy call_int1 ref_int (by rfl) B.int (by decide +kernel) (qa_cons (qe_op op_add ref_I0 (qe_op op_add ref_I0 (qe_op op_mul ref_II (qe_var 0) qe_int) (qe_op op_mul ref_II (qe_var 1) qe_int)) qe_int) qa_nil)) qe_int))
    (qss_cons (qs_for (passes_of rfl) rfl (qi_range1 (pi_range1 (by rfl) B.range (qa_cons qe_int qa_nil))) (qg_name (i := 4) nd rfl (by first | exact Or.inl rfl | exact Or.inr rfl)) (qss_cons (qs_set (i := 3) nd rfl (by first | exact Or.inl rfl | exact Or.inr rfl) (qe_op op_mod ref_II (qe_callTy call_int1 ref_int (by rfl) B.int (by decide +kernel) (qa_cons (qe_op op_add ref_I0 (qe_op op_add ref_I0 (qe_op op_mul ref_II (qe_var 3) qe_int) (qe_op op_mul ref_II (qe_var 4) qe_int)) qe_int) qa_nil)) qe_int))
    (qss_one (qs_set (i := 2) nd rfl (by first | exact Or.inl rfl | exact Or.inr rfl) (qe_op op_add ref_I0 (qe_op op_mul ref_II (qe_var 2) qe_int) (qe_op op_mod ref_II (qe_callTy call_int1 ref_int (by rfl) B.int (by decide +kernel) (qa_cons (qe_op op_add ref_I0 (qe_op op_mul ref_II (qe_var 3) (qe_var 3)) (qe_op op_mul ref_II (qe_var 4) qe_int)) qa_nil)) qe_int))))))
    (qss_one (qs_ret (qe_var 2))))))) (fun ds l Qd Ed hl h => ?_)
  obtain ⟨a, b, rfl, rfl, q⟩ := h
  walk_at "q"
  refine loopR (fun i σ l => ∃ t s x, σ = [some (.d (.int a)), some (.d (.int b)), some (.d (.int t)), some (.d (.int s)), x] ∧ l = [] ∧ 0 ≤ t ∧ 0 ≤ s ∧ s < 2147483647) ?_ ?_ ?_
  · exact ⟨0, _, _, rfl, rfl, by omega, by omega, by omega⟩
  · rintro i σ l hi ⟨t, s, x, rfl, rfl, h1, h2, h3⟩
    walk_at "q"
    have m1 := Int.emod_nonneg (s * 48271 + (i : Int) * 69621 + 12345) (show (2147483647 : Int) ≠ 0 by decide)
    have m2 := Int.emod_lt_of_pos (s * 48271 + (i : Int) * 69621 + 12345) (show (0 : Int) < 2147483647 by decide)
    generalize (s * 48271 + (i : Int) * 69621 + 12345) % 2147483647 = m at *
    have m3 := Int.emod_nonneg (m * m + (i : Int) * 7) (show (2147483647 : Int) ≠ 0 by decide)
    exact ⟨.inl ⟨by omega, by omega⟩, _, _, _, rfl, by omega, m1, m2⟩
  · rintro σ l ⟨t, s, x, rfl, rfl, h1, h2, h3⟩
    walk_at "q"
    exact q _ h1
structure Cs_law_purse (P : Program) (w : World) (K : PySem.W.Frag) (mg : Str → Option Value) (base : Heap) : Prop where
  law_mixed : CalQ P w K mg base 1 "_law_mixed" 2 fs_law_mixed
theorem ok_law_purse {f : Addr} {fd : FuncData} (F : Fun K "_law_purse" "_law_purse" s_law_purse f fd) (B : Bt mg) (C : Cs_law_purse P w K mg base) : FnOk P w K mg base (L2N.CX P w) 2 f fd ["script"] (spQ K 1 fs_law_purse) := by
  have nd := sc_law_purse.nd
  refine fun_q (k := 1) F sc_law_purse 1 rfl (fun cdv A outer s H E hr tk => (qss_cons (qs_set (i := 1) nd rfl (by first | exact Or.inl rfl | exact Or.inr rfl) (qe_lst (f := .cell) qa_nil))
    (qss_cons (qs_set (i := 2) nd rfl (by first | exact Or.inl rfl | exact Or.inr rfl) (qe_lst (f := .cell) qa_nil))
    (qss_cons (qs_for (passes_of rfl) rfl (qi_range1 (pi_range1 (by rfl) B.range (qa_cons (qe_callB call_len_seq ref_len (by rfl) B.len (by decide +kernel) (qa_cons (qe_sl sl_list (ref_slL (f := .frz)) (qe_var 0) qo_none (qo_some qe_int)) qa_nil)) qa_nil))) (qg_name (i := 3) nd rfl (by first | exact Or.inl rfl | exact Or.inr rfl)) (qss_cons (qs_set (i := 4) nd rfl (by first | exact Or.inl rfl | exact Or.inr rfl) (qe_ifE (qt_cmp (op_ge) ref_B0 (qe_ix (qe_var 0) (qe_var 3) (fun _ _ => rfl)) qe_int (nomark _)) (qe_ix (qe_var 0) (qe_var 3) (fun _ _ => rfl)) (qe_un un_neg ref_U (qe_ix (qe_var 0) (qe_var 3) (fun _ _ => rfl)))))
    (qss_one (qs_if (qt_cmp (op_ge) ref_B0 (qe_var 4) qe_int (nomark _)) (qss_cons (qs_expr (qe_bm PySem.F.slot_list_append PySem.F.type_list_append mt_append ref_append (qe_var 1) (qa_cons (qe_op op_fdiv ref_II (qe_var 4) qe_int) qa_nil)))
    (qss_one (qs_expr (qe_bm PySem.F.slot_list_append PySem.F.type_list_append mt_append ref_append (qe_var 2) (qa_cons (qe_call C.law_mixed hr (by decide) tk (by rfl) (qa_cons (qe_op op_mod ref_II (qe_callTy call_int1 ref_int (by rfl) B.int (by decide +kernel) (qa_cons (qe_var 4) qa_nil)) qe_int) (qa_cons (qe_var 3) qa_nil))) qa_nil))))) (qss_one (qs_expr (qe_bm PySem.F.slot_list_append PySem.F.type_list_append mt_append ref_append (qe_var 1) (qa_cons (qe_call C.law_mixed hr (by decide) tk (by rfl) (qa_cons (qe_op op_add ref_I0 (qe_op op_mul ref_II qe_int (qe_op op_mod ref_II (qe_callTy call_int1 ref_int (by rfl) B.int (by decide +kernel) (qa_cons (qe_var 4) qa_nil)) qe_int)) (qe_ifE (qt_cmp (op_lt) ref_B0 (qe_ix (qe_var 0) (qe_var 3) (fun _ _ => rfl)) qe_int (nomark _)) qe_int qe_int)) (qa_cons (qe_var 3) qa_nil))) qa_nil))))))))
    (qss_one (qs_ret (qe_ifE (qt_cmp (op_gt) ref_B0 (qe_callB call_len_seq ref_len (by rfl) B.len (by decide +kernel) (qa_cons (qe_var 1) qa_nil)) qe_int (nomark _)) (qe_op op_cat (ref_cat (f := .cell)) (qe_var 1) (qe_var 2)) (qe_lst (f := .cell) (qa_cons (qe_call C.law_mixed hr (by decide) tk (by rfl) (qa_cons qe_int (qa_cons qe_int qa_nil))) qa_nil))))))))) (fun ds l Qd Ed hl h => ?_)
  obtain ⟨ns, rfl, rfl, hn, q⟩ := h
  walk_at "q"
  rw [show QL.cutD (ns.map D.int) none (some 63) = ns.map D.int from cut63 (k := 63) (by simpa using hn)]
  simp only [List.length_map]
  refine ⟨by omega, by omega, ?_⟩
  refine loopR (fun i σ l => ∃ (xs bs : List Int) (x y : Option QL.P), σ = [some (.d (.scr (ns.map .int))), some (.loc 0), some (.loc 1), x, y] ∧ l = [.lst (xs.map .int), .lst (bs.map .int)] ∧ xs.length = i ∧ bs.length ≤ i ∧ (∀ n ∈ xs, 0 ≤ n) ∧ (∀ n ∈ bs, 0 ≤ n)) ⟨[], [], _, _, rfl, rfl, rfl, by simp, by simp, by simp⟩ ?_ ?_
  · rintro i σ l hi ⟨xs, bs, x, y, rfl, rfl, ha, hb, h1, h2⟩
    walk_at "q"
    have hi2 : i < ns.length := by omega
    simp only [atI_m (f := D.int) (k := (i : Int)) rfl (get_at hi2), Option.some.injEq, exists_eq_left']
    generalize ns[i] = v
    have end1 : ∀ (n : Nat), n < 100 → n < sizeLine := fun n h => Nat.lt_trans h (by decide)
    have big : ∀ u : Int, u ≥ 1000000000000000000 → (∀ n : Int, n ∈ xs ++ [u / 2] → 0 ≤ n) := fun u hu n h => by
      rcases List.mem_append.mp h with h | h
      · exact h1 n h
      · simp at h; omega
    have add : ∀ (zs : List Int) (r : Int), (∀ n ∈ zs, 0 ≤ n) → 0 ≤ r → ∀ n : Int, n ∈ zs ++ [r] → 0 ≤ n := fun zs r hz hr n h => by
      rcases List.mem_append.mp h with h | h
      · exact hz n h
      · simp at h; omega
    split <;> split
    · rename_i h3 h4
      refine ⟨by decide, end1 _ (by omega), _, _, rfl, rfl, fun r hr => ?_⟩
      walk_at "q"
      exact ⟨end1 _ (by omega), xs ++ [v / 2], bs ++ [r], _, _, rfl, by simp, by simp [ha], by simp; omega, big v h4, add bs r h2 hr⟩
    · rename_i h3 h4
      split
      all_goals
        refine ⟨_, _, rfl, rfl, fun r hr => ?_⟩
        walk_at "q"
        exact ⟨end1 _ (by omega), xs ++ [r], bs, _, _, rfl, by simp, by simp [ha], by omega, add xs r h1 hr, h2⟩
    · rename_i h3 h4
      refine ⟨end1 _ (by omega), _, _, rfl, rfl, fun r hr => ?_⟩
      walk_at "q"
      exact ⟨end1 _ (by omega), xs ++ [-v / 2], bs ++ [r], _, _, rfl, by simp, by simp [ha], by simp; omega, big (-v) h4, add bs r h2 hr⟩
    · rename_i h3 h4
      split
      all_goals
        refine ⟨_, _, rfl, rfl, fun r hr => ?_⟩
        walk_at "q"
        exact ⟨end1 _ (by omega), xs ++ [r], bs, _, _, rfl, by simp, by simp [ha], by omega, add xs r h1 hr, h2⟩
  · rintro σ l ⟨xs, bs, x, y, rfl, rfl, ha, hb, h1, h2⟩
    walk_at "q"
    split
    · refine ⟨Nat.le_of_lt (Nat.lt_of_le_of_lt (show xs.length + bs.length ≤ 1000 by omega) (by decide)), ?_⟩
      have := q (xs ++ bs) (by simp; omega) (fun n h => by
        rcases List.mem_append.mp h with h | h
        · exact h1 n h
        · exact h2 n h)
      simpa using this
    · refine ⟨_, _, rfl, rfl, fun r hr => ?_⟩
      walk_at "q"
      have := q [r] (by simp) (by simpa using hr)
      simpa using this
theorem ok_law_take {f : Addr} {fd : FuncData} (F : Fun K "_law_take" "_law_take" s_law_take f fd) (B : Bt mg) : FnOk P w K mg base (L2N.CX P w) 1 f fd ["purse", "many"] (spQ K 2 fs_law_take) := by
  have nd := sc_law_take.nd
  refine fun_q (k := 0) F sc_law_take 2 rfl (fun cdv A outer s H E hr tk => (qss_cons (qs_while (passes_of rfl) (QW.qt (qw_and (qt_cmp (op_gt) ref_B0 (qe_callB call_len_seq ref_len (by rfl) B.len (by decide +kernel) (qa_cons (qe_var 0) qa_nil)) qe_int (nomark _)) (qw_and1 (qt_cmp (op_eqD hr.units) ref_eq (qe_ix (qe_var 0) qe_int (fun _ _ => rfl)) qe_int (nomark _))))) (qss_one (qs_expr (qe_bm PySem.F.slot_list_pop PySem.F.type_list_pop mt_popAt ref_popAt (qe_var 0) (qa_cons qe_int qa_nil)))))
    (qss_cons (qs_if (qt_cmp (op_eqD hr.units) ref_eq (qe_callB call_len_seq ref_len (by rfl) B.len (by decide +kernel) (qa_cons (qe_var 0) qa_nil)) qe_int (nomark _)) (qss_one (qs_ret qe_int)) qss_nil)
    (qss_cons (qs_set (i := 2) nd rfl (by first | exact Or.inl rfl | exact Or.inr rfl) (qe_op op_mod ref_II (qe_callTy call_int1 ref_int (by rfl) B.int (by decide +kernel) (qa_cons (qe_ix (qe_var 0) qe_int (fun _ _ => rfl)) qa_nil)) (qe_var 1)))
    (qss_cons (qs_asg (qe_op op_fdiv ref_II (qe_ix (qe_var 0) qe_int (fun _ _ => rfl)) (qe_var 1)) (qg_subL (W := W0) (qe_var 0) qe_int))
    (qss_one (qs_ret (qe_var 2)))))))) (fun ds l Qd Ed hl h => ?_)
  obtain ⟨ns, m, rfl, rfl, hp, h1, h2, q⟩ := h
  walk_at "q"
  refine whileI (fun σ l => ∃ ns', σ = [some (.loc 0), some (.d (.int m)), none] ∧ l = [.lst (ns'.map .int)] ∧ Pur ns') (fun _ l => match l with | [.lst ws] => ws.length | _ => 0) ⟨_, rfl, rfl, hp⟩ ?_
  rintro σ l ⟨ns', rfl, rfl, hp'⟩
  cases ns' with
  | nil =>
    walk_at "q"
    exact q 0 [] (by omega) (by omega) hp'
  | cons x r =>
    walk_at "q"
    have hx : 0 ≤ x := hp'.2 x (by simp)
    have hr : Pur r := ⟨by have := hp'.1; simp at this; omega, fun n h => hp'.2 n (by simp [h])⟩
    have m1 := Int.emod_nonneg x (show m ≠ 0 by omega)
    have m2 := Int.emod_lt_of_pos x (show 0 < m by omega)
    split
    · exact ⟨0, D.int x, rfl, rfl, r.length, by omega, by simp, r, rfl, hr⟩
    · refine ⟨by omega, ⟨by omega, by omega⟩, q (x % m) (x / m :: r) m1 m2 ⟨by have := hp'.1; simpa using this, fun n h => ?_⟩⟩
      rcases List.mem_cons.mp h with h | h
      · rw [h]
        exact Int.ediv_nonneg hx (by omega)
      · exact hr.2 n h
structure Cs_law_row (P : Program) (w : World) (K : PySem.W.Frag) (mg : Str → Option Value) (base : Heap) : Prop where
  law_take : CalQ P w K mg base 1 "_law_take" 2 fs_law_take
theorem ok_law_row {f : Addr} {fd : FuncData} (F : Fun K "_law_row" "_law_row" s_law_row f fd) (B : Bt mg) (C : Cs_law_row P w K mg base) : FnOk P w K mg base (L2N.CX P w) 2 f fd ["purse", "long", "many"] (spQ K 3 fs_law_row) := by
  have nd := sc_law_row.nd
  refine fun_q (k := 1) F sc_law_row 3 rfl (fun cdv A outer s H E hr tk => (qss_one (qs_ret (qe_callTy call_tuple_of ref_tuple (by rfl) B.tuple (by decide +kernel) (qa_cons (qe_lc (f := .frz) (own := [("place", 3)]) rfl nd (qi_range1 (pi_range1 (by rfl) B.range (qa_cons (qe_var 1) qa_nil))) (blkOk_by (N := N_law_row) (sc := defScope s_law_row) (by decide +kernel)) (fun _ _ _ _ _ => (qgv_name (i := 3) (by decide) nd rfl (by first | exact Or.inl rfl | exact Or.inr rfl))) (fun _ _ _ _ _ => qts_nil) (fun _ _ _ _ _ => (qe_call C.law_take hr (by decide) takes_noneN (by rfl) (qa_cons (qe_var 0) (qa_cons (qe_var 2) qa_nil))))) qa_nil))))) (fun ds l Qd Ed hl h => ?_)
  obtain ⟨ns, k, m, rfl, rfl, hp, hk, h1, h2, q⟩ := h
  walk_at "q"
  refine ⟨by omega, by omega, ?_⟩
  refine lcI (fun i acc l => ∃ rs ns' : List Int, acc = rs.map .int ∧ l = [.lst (ns'.map .int)] ∧ (∀ r ∈ rs, 0 ≤ r ∧ r < m) ∧ Pur ns') (by rw [rangeD_len]; exact small1000 (by omega)) ⟨[], ns, rfl, rfl, by simp, hp⟩ ?_ ?_
  · rintro i x acc l hx ha ⟨rs, ns', rfl, rfl, hr, hp'⟩
    obtain ⟨hi, rfl⟩ := rangeD_get hx
    walk_at "q"
    refine ⟨ns', m, rfl, rfl, hp', h1, h2, fun r ns'' r0 r1 hp'' => ?_⟩
    simp only [List.length_map] at ha
    exact ⟨⟨by simp [ha], by omega⟩, rs ++ [r], ns'', by simp, rfl, by
      intro x hx
      rcases List.mem_append.mp hx with h | h
      · exact hr x h
      · simp at h; omega, hp''⟩
  · rintro acc l ha ⟨rs, ns', rfl, rfl, hr, hp'⟩
    walk_at "q"
    exact q rs ns' (by simpa [rangeD_len] using ha) hr hp'
structure Cs_law_asks (P : Program) (w : World) (K : PySem.W.Frag) (mg : Str → Option Value) (base : Heap) : Prop where
  law_take : CalQ P w K mg base 1 "_law_take" 2 fs_law_take
  law_row : CalQ P w K mg base 2 "_law_row" 3 fs_law_row
theorem ok_law_asks {f : Addr} {fd : FuncData} (F : Fun K "_law_asks" "_law_asks" s_law_asks f fd) (B : Bt mg) (C : Cs_law_asks P w K mg base) : FnOk P w K mg base (L2N.CX P w) 3 f fd ["purse", "many", "most"] (spQ K 3 fs_law_asks) := by
  have nd := sc_law_asks.nd
  refine fun_q (k := 2) F sc_law_asks 3 rfl (fun cdv A outer s H E hr tk => (qss_cons (qs_set (i := 3) nd rfl (by first | exact Or.inl rfl | exact Or.inr rfl) (qe_op op_add ref_I0 qe_int (qe_call C.law_take hr (by decide) tk (by rfl) (qa_cons (qe_var 0) (qa_cons qe_int qa_nil)))))
    (qss_cons (qs_set (i := 4) nd rfl (by first | exact Or.inl rfl | exact Or.inr rfl) (qe_op op_add ref_I0 qe_int (qe_call C.law_take hr (by decide) tk (by rfl) (qa_cons (qe_var 0) (qa_cons qe_int qa_nil)))))
    (qss_cons (qs_set (i := 5) nd rfl (by first | exact Or.inl rfl | exact Or.inr rfl) qe_newT)
    (qss_cons (qs_set (i := 6) nd rfl (by first | exact Or.inl rfl | exact Or.inr rfl) qe_newT)
    (qss_cons (qs_for (passes_of rfl) rfl (qi_range1 (pi_range1 (by rfl) B.range (qa_cons (qe_call C.law_take hr (by decide) tk (by rfl) (qa_cons (qe_var 0) (qa_cons (qe_op op_add ref_I0 (qe_var 2) qe_int) qa_nil))) qa_nil))) (qg_name (i := 7) nd rfl (by first | exact Or.inl rfl | exact Or.inr rfl)) (qss_cons (qs_set (i := 8) nd rfl (by first | exact Or.inl rfl | exact Or.inr rfl) (qe_call C.law_row hr (by decide) tk (by rfl) (qa_cons (qe_var 0) (qa_cons (qe_var 1) (qa_cons (qe_var 3) qa_nil)))))
    (qss_cons (qs_if (qt_cmp (op_neD hr.units) ref_ne (qe_callB (cr_maxT rfl hr.units) ref_maxT (by rfl) B.max (by decide +kernel) (qa_cons (qe_var 8) qa_nil)) (qe_callB (cr_minT rfl hr.units) ref_minT (by rfl) B.min (by decide +kernel) (qa_cons (qe_var 8) qa_nil)) (nomark _)) (qss_one (qs_asg qe_bl (qg_subD (W := W0) hr.u1 (qe_var 6) (qe_var 8)))) qss_nil)
    (qss_one (qs_asg qe_bl (qg_subD (W := W0) hr.u1 (qe_var 5) (qe_call C.law_row hr (by decide) takes_noneN (by rfl) (qa_cons (qe_var 0) (qa_cons (qe_op op_add ref_I0 qe_int (qe_call C.law_take hr (by decide) takes_noneN (by rfl) (qa_cons (qe_var 0) (qa_cons qe_int qa_nil)))) (qa_cons (qe_var 4) qa_nil))))))))))
    (qss_cons (qs_set (i := 9) nd rfl (by first | exact Or.inl rfl | exact Or.inr rfl) (qe_callB (cr_sortedG hr.units) (ref_srt (f := .frz)) (by rfl) B.sorted (by decide +kernel) (qa_cons (qe_lc (f := .frz) (own := [("ledger", 10)]) rfl nd (qi_keys (qe_ice (qe_var 5))) (blkOk_by (N := N_law_asks) (sc := defScope s_law_asks) (by decide +kernel)) (fun _ _ _ _ _ => (qgv_name (i := 10) (by decide) nd rfl (by first | exact Or.inl rfl | exact Or.inr rfl))) (fun _ _ _ _ _ => qts_nil) (fun _ _ _ _ _ => (qe_tup (qa_cons (qe_callB call_len_seq ref_len (by rfl) B.len (by decide +kernel) (qa_cons (qe_var 10) qa_nil)) (qa_cons (qe_var 10) qa_nil))))) qa_nil)))
    (qss_cons (qs_setLc (f := .frz) (i := 11) rfl nd rfl rfl (sw_true rfl rfl rfl (by decide +kernel)) (own := [("row", 8), ("mate", 12)]) (qi_zip (RZ.pi_zipA (by rfl) B.zip (qa_cons (qe_callTy (call_listDD rfl) (ref_listD (f := .frz)) (by rfl) B.list (by decide +kernel) (qa_cons (qe_var 6) qa_nil)) (qa_cons (qe_var 9) qa_nil)))) (blkOk_by (N := N_law_asks) (sc := defScope s_law_asks) (by decide +kernel)) (fun _ _ _ _ _ => (qgv_tup (n := 2) rfl (qgvs_cons (qgv_name (i := 8) (by decide) nd rfl (by first | exact Or.inl rfl | exact Or.inr rfl)) (qgvs_cons (qgv_name (i := 12) (by decide) nd rfl (by first | exact Or.inl rfl | exact Or.inr rfl)) qgvs_nil)))) (fun _ _ _ _ _ => qts_nil) (fun _ _ _ _ _ => (qe_tup (qa_cons (qe_var 8) (qa_cons (qe_ix (qe_var 12) qe_int (fun _ _ => rfl)) qa_nil)))))
    (qss_cons (qs_set (i := 13) nd rfl (by first | exact Or.inl rfl | exact Or.inr rfl) (qe_call C.law_take hr (by decide) tk (by rfl) (qa_cons (qe_var 0) (qa_cons qe_int qa_nil))))
    (qss_cons (qs_if (qt_cmp (op_eqD hr.units) ref_eq (qe_var 13) qe_int (nomark _)) (qss_one (qs_set (i := 11) nd rfl (by first | exact Or.inl rfl | exact Or.inr rfl) (qe_revL (f := .frz) (qe_var 11)))) qss_nil)
    (qss_cons (qs_if (qt_cmp (op_eqD hr.units) ref_eq (qe_var 13) qe_int (nomark _)) (qss_one (qs_set (i := 11) nd rfl (by first | exact Or.inl rfl | exact Or.inr rfl) (qe_op op_cat (ref_cat (f := .frz)) (qe_var 11) (qe_sl sl_list (ref_slL (f := .frz)) (qe_var 11) qo_none (qo_some qe_int))))) qss_nil)
    (qss_one (qs_ret (qe_callTy call_tuple_of ref_tuple (by rfl) B.tuple (by decide +kernel) (qa_cons (qe_var 11) qa_nil))))))))))))))) (fun ds l Qd Ed hl h => ?_)
  obtain ⟨ns, n, m, rfl, rfl, hp, hn1, hn8, hm, q⟩ := h
  walk_at "q"
  refine ⟨ns, 3, rfl, rfl, hp, by omega, by omega, fun r ns' r0 r1 hp' => ?_⟩
  walk_at "q"
  refine ⟨ns', 2, rfl, rfl, hp', by omega, by omega, fun r2 ns'' r20 r21 hp'' => ?_⟩
  walk_at "q"
  refine ⟨ns'', _, rfl, rfl, hp'', by omega, by omega, fun r3 ns3 r30 r31 hp3 => ?_⟩
  walk_at "q"
  have hsz : ∀ k : Nat, k ≤ 300 → k < sizeLine := fun k hk => Nat.lt_of_le_of_lt hk (by decide)
  obtain ⟨c3, rfl⟩ : ∃ c : Nat, r3 = (c : Int) := ⟨r3.toNat, by omega⟩
  refine ⟨by omega, by omega, ?_⟩
  refine loopR (fun i σ l => ∃ (ns' : List Int) (pk rk : List (List Key × D)) (x7 x8 : Option QL.P), Pur ns' ∧ pk.length ≤ i ∧ rk.length ≤ i ∧ (∀ q ∈ pk, ∃ v : List Nat, q.1 = keyN v ∧ 1 ≤ v.length ∧ v.length ≤ 4) ∧ (∀ q ∈ rk, ∃ v : List Nat, q.1 = keyN v ∧ v.length = n) ∧
    σ = [some (.loc 0), some (.d (.int n)), some (.d (.int m)), some (.d (.int (2 + r))), some (.d (.int (2 + r2))), some (.loc 1), some (.loc 2), x7, x8, none, none, none, none, none] ∧ l = [.lst (ns'.map .int), .dt pk, .dt rk])
    ⟨ns3, [], [], _, _, hp3, by simp, by simp, by simp, by simp, rfl, rfl⟩ ?_ ?_
  · rintro i σ l hi ⟨ns4, pk, rk, x7, x8, hp4, hpl, hrl, hpk, hrk, rfl, rfl⟩
    have hi20 : i < 20 := by omega
    walk_at "q"
    refine ⟨ns4, n, _, rfl, rfl, hp4, by omega, by omega, by omega, fun rs ns5 rl rb hp5 => ?_⟩
    obtain ⟨vr, hvr⟩ := ints_nat fun x hx => (rb x hx).1
    have rlen : 0 < rs.length := by omega
    obtain ⟨r0', rs', rfl⟩ : ∃ a b, rs = a :: b := by
      cases rs with
      | nil => simp at rlen
      | cons a b => exact ⟨a, b, rfl⟩
    have hkl : keyL ((r0' :: rs').map D.int) = some (keyN vr) := by rw [hvr]; exact keyL_nats vr
    have hvl : vr.length = n := by
      have := congrArg List.length hvr
      rw [List.length_map, natsD_len] at this
      omega
    have fin : ∀ rk' : List (List Key × D), rk'.length ≤ i + 1 → (∀ q ∈ rk', ∃ v : List Nat, q.1 = keyN v ∧ v.length = n) → ∀ x8, fs_law_take [.loc 0, .d (.int 4)] [.lst (ns5.map .int)] (callB [0] [.lst (ns5.map .int), .dt pk, .dt rk']
        (kOp2 (oI0 HAdd.hAdd) (.d (.int 1)) (kC1 (wCons (wVar 4) wNil) [some (.loc 0), some (.d (.int n)), some (.d (.int m)), some (.d (.int (2 + r))), some (.d (.int (2 + r2))), some (.loc 1), some (.loc 2), some (.d (.int i)), x8, none, none, none, none, none]
          (kC2 (.loc 0) (kCall 3 fs_law_row (kSubD2 (.d (.bl true)) [some (.loc 0), some (.d (.int n)), some (.d (.int m)), some (.d (.int (2 + r))), some (.d (.int (2 + r2))), some (.loc 1), some (.loc 2), some (.d (.int i)), x8, none, none, none, none, none] (.loc 1)
            fun σ l => ∃ (ns' : List Int) (pk rk : List (List Key × D)) (x7 x8 : Option QL.P), Pur ns' ∧ pk.length ≤ i + 1 ∧ rk.length ≤ i + 1 ∧ (∀ q ∈ pk, ∃ v : List Nat, q.1 = keyN v ∧ 1 ≤ v.length ∧ v.length ≤ 4) ∧ (∀ q ∈ rk, ∃ v : List Nat, q.1 = keyN v ∧ v.length = n) ∧
              σ = [some (.loc 0), some (.d (.int n)), some (.d (.int m)), some (.d (.int (2 + r))), some (.d (.int (2 + r2))), some (.loc 1), some (.loc 2), x7, x8, none, none, none, none, none] ∧ l = [.lst (ns'.map .int), .dt pk, .dt rk]) noEx)) noEx)))
        (callE [0] [.lst (ns5.map .int), .dt pk, .dt rk'] noEx) := by
      intro rk' hl1 hk1 x8
      refine ⟨ns5, 4, rfl, rfl, hp5, by omega, by omega, fun r6 ns6 r60 r61 hp6 => ?_⟩
      walk_at "q"
      obtain ⟨c6, rfl⟩ : ∃ c : Nat, r6 = (c : Int) := ⟨r6.toNat, by omega⟩
      refine ⟨ns6, 1 + c6, _, rfl, rfl, hp6, by omega, by omega, by omega, fun rs2 ns7 rl2 rb2 hp7 => ?_⟩
      obtain ⟨v2, hv2⟩ := ints_nat fun x hx => (rb2 x hx).1
      have hv2l : v2.length = 1 + c6 := by
        have := congrArg List.length hv2
        rw [List.length_map, natsD_len] at this
        omega
      walk_at "q"
      rw [hv2, keyL_nats]
      have hq := putD_len (kvs := pk) (k := keyN v2) (y := D.bl true)
      refine ⟨hsz _ (by omega), _, rfl, ns7, _, rk', _, _, hp7, Nat.le_trans hq.1 (by omega), hl1, fun x hx => ?_, hk1, rfl, rfl⟩
      rcases hq.2 x hx with e | ⟨q', h1, e⟩
      · exact ⟨v2, e, by omega, by omega⟩
      · rw [e]
        exact hpk q' h1
    walk_at "q"
    refine ⟨_, _, rfl, _, _, rfl, ?_⟩
    have hkl2 : keyL (D.int r0' :: rs'.map D.int) = some (keyN vr) := hkl
    have hq := putD_len (kvs := rk) (k := keyN vr) (y := D.bl true)
    split
    · rw [hkl2]
      refine ⟨hsz _ (by omega), _, rfl, ?_⟩
      refine fin (putD rk (keyN vr) (.bl true)) (Nat.le_trans hq.1 (by omega)) (fun x hx => ?_) _
      rcases hq.2 x hx with e | ⟨q', h1, e⟩
      · exact ⟨vr, e, hvl⟩
      · rw [e]
        exact hrk q' h1
    · exact fin rk (by omega) hrk _
  · rintro σ l ⟨ns4, pk, rk, x7, x8, hp4, hpl, hrl, hpk, hrk, rfl, rfl⟩
    walk_at "q"
    obtain ⟨pv, hpv, hpP⟩ := im_list (f := keyN) (zs := pk.map (·.1)) (P := fun v => 1 ≤ v.length ∧ v.length ≤ 4) (fun z hz => by
      obtain ⟨q, hq, rfl⟩ := List.mem_map.mp hz
      exact hpk q hq)
    obtain ⟨rv, hrv, hrP⟩ := im_list (f := keyN) (zs := rk.map (·.1)) (P := fun v => v.length = n) (fun z hz => by
      obtain ⟨q, hq, rfl⟩ := List.mem_map.mp hz
      exact hrk q hq)
    have hpvl : pv.length ≤ 20 := by
      have := congrArg List.length hpv
      rw [List.length_map, List.length_map] at this
      simp only [Int.toNat_natCast] at hpl
      omega
    have hrvl : rv.length ≤ 19 := by
      have := congrArg List.length hrv
      rw [List.length_map, List.length_map] at this
      simp only [Int.toNat_natCast] at hrl
      omega
    have ekT : ∀ vs : List (List Nat), keysT (vs.map keyN) = vs.map fun v => .tup (natsD v) := fun vs => by
      unfold keysT
      rw [List.map_map]
      refine List.map_congr_left fun v _ => ?_
      show D.tup ((keyN v).map kD) = _
      rw [keyN_D]
    have eP : keysT (pk.map fun x => x.1) = pv.map fun v => .tup (natsD v) := by rw [show (pk.map fun x => x.1) = pv.map keyN from hpv, ekT]
    have eR : keysT (rk.map fun x => x.1) = rv.map fun v => .tup (natsD v) := by rw [show (rk.map fun x => x.1) = rv.map keyN from hrv, ekT]
    rw [eP]
    generalize hfz : Cell.fz (D.dt (pk.map fun x => x.1) (pk.map fun x => x.2)) = fz
    refine lcI (fun i acc l => acc = (pv.take i).map lenD ∧ l = [.lst (ns4.map .int), fz, .dt rk]) (by rw [List.length_map]; exact hsz _ (by omega)) ⟨rfl, rfl⟩ ?_ ?_
    · rintro i x acc l hx ha ⟨rfl, rfl⟩
      rw [List.getElem?_map] at hx
      obtain ⟨v, hv, rfl⟩ := Option.map_eq_some_iff.mp hx
      have hi := (List.getElem?_eq_some_iff.mp hv).1
      walk_at "q"
      rw [List.length_map] at ha
      refine ⟨⟨by rw [ha], by omega⟩, ?_⟩
      rw [List.take_add_one, hv, Option.toList_some, List.map_append, natsD_len]
      rfl
    · rintro acc l ha ⟨rfl, rfl⟩
      rw [List.length_map, List.take_length]
      walk_at "q"
      refine ⟨srt_len pv, ?_⟩
      obtain ⟨pv', hpv', hpP'⟩ := im_list (f := lenD) (zs := srtD (pv.map lenD)) (P := fun v => 1 ≤ v.length ∧ v.length ≤ 4) (fun z hz => by
        obtain ⟨v, hv, rfl⟩ := List.mem_map.mp ((List.mergeSort_perm _ _).mem_iff.mp hz)
        exact ⟨v, rfl, hpP v hv⟩)
      rw [hpv']
      rw [eR]
      have ez : prsD (rv.map fun v => D.tup (natsD v)) (pv'.map lenD) = (rv.zip pv').map fun q => .tup [.tup (natsD q.1), lenD q.2] := by
        unfold prsD
        rw [List.zip_map, List.map_map]
        rfl
      rw [ez]
      have hzl : (rv.zip pv').length ≤ 19 := by rw [List.length_zip]; omega
      have hzP : ∀ a ∈ rv.zip pv', a.1.length = n ∧ 1 ≤ a.2.length ∧ a.2.length ≤ 100 := fun a ha => by
        have h := List.of_mem_zip (show (a.1, a.2) ∈ rv.zip pv' from ha)
        have := hpP' _ h.2
        exact ⟨hrP _ h.1, by omega, by omega⟩
      generalize rv.zip pv' = As at hzl hzP
      refine lcI (fun i acc l => acc = (As.take i).map askD ∧ l = [.lst (ns4.map .int), fz, .dt rk]) (by rw [List.length_map]; exact hsz _ (by omega)) ⟨rfl, rfl⟩ ?_ ?_
      · rintro i x acc l hx ha ⟨rfl, rfl⟩
        rw [List.getElem?_map] at hx
        obtain ⟨v, hv, rfl⟩ := Option.map_eq_some_iff.mp hx
        have hi := (List.getElem?_eq_some_iff.mp hv).1
        walk_at "q"
        rw [List.length_map] at ha
        refine ⟨⟨by rw [ha], by omega⟩, ?_⟩
        rw [List.take_add_one, hv, Option.toList_some, List.map_append]
        rfl
      · rintro acc l ha ⟨rfl, rfl⟩
        rw [List.length_map, List.take_length]
        walk_at "q"
        refine ⟨ns4, 8, rfl, rfl, hp4, by omega, by omega, fun r8 ns8 r80 r81 hp8 => ?_⟩
        walk_at "q"
        have ec : ∀ xs : List D, QL.cutD xs none (some 1) = xs.take 1 := fun xs => cutTake (k := 1)
        have q' : ∀ As' : AskL, As'.length ≤ 20 → (∀ a ∈ As', a ∈ As) → Qd (.d (asksD As')) [.lst (ns8.map .int)] := fun As' h1 h2 => q As' ns8 (by omega) (fun a ha => hzP a (h2 a ha)) hp8
        simp only [ec]
        split
        · rw [← List.map_reverse]
          split
          · rename_i h5 h3
            omega
          · exact q' _ (by rw [List.length_reverse]; omega) fun a ha => by simpa using ha
        · split
          · rw [← List.map_take, ← List.map_append]
            refine ⟨by rw [List.length_map]; exact Nat.le_of_lt (hsz _ (by rw [List.length_take]; omega)), ?_⟩
            exact q' _ (by rw [List.length_append, List.length_take]; omega) fun a ha => by
              rcases List.mem_append.mp ha with h | h
              · exact h
              · exact List.mem_of_mem_take h
          · exact q' _ (by omega) fun a ha => ha
theorem ok_members {f : Addr} {fd : FuncData} (F : Fun K "members" "members" s_members f fd) (B : Bt mg) : FnOk P w K mg base (L2N.CX P w) 1 f fd ["lot"] (spQ K 1 fs_members) := by
  have nd := sc_members.nd
  refine fun_q (k := 0) F sc_members 1 rfl (fun cdv A outer s H E hr tk => (qss_cons (qs_set (i := 1) nd rfl (by first | exact Or.inl rfl | exact Or.inr rfl) (qe_lst (f := .cell) qa_nil))
    (qss_cons (qs_set (i := 2) nd rfl (by first | exact Or.inl rfl | exact Or.inr rfl) qe_int)
    (qss_cons (qs_while (passes_of rfl) (qt_cmp (op_gt) ref_B0 (qe_op op_shr ref_II (qe_var 0) (qe_var 2)) qe_int (nomark _)) (qss_cons (qs_if (qt_cmp (op_eqD hr.units) ref_eq (qe_op op_and ref_I0 (qe_op op_shr ref_II (qe_var 0) (qe_var 2)) qe_int) qe_int (nomark _)) (qss_one (qs_expr (qe_bm PySem.F.slot_list_append PySem.F.type_list_append mt_append ref_append (qe_var 1) (qa_cons (qe_var 2) qa_nil)))) qss_nil)
    (qss_one (qs_aug (i := 2) nd rfl (by first | exact Or.inl rfl | exact Or.inr rfl) qe_int ip_add ref_ip))))
    (qss_one (qs_ret (qe_callTy call_tuple_of ref_tuple (by rfl) B.tuple (by decide +kernel) (qa_cons (qe_var 1) qa_nil)))))))) (fun ds l Qd Ed hl h => ?_)
  obtain ⟨lot, rfl, rfl, hl, q⟩ := h
  walk_at "q"
  refine whileI (fun σ l => ∃ i : Nat, i ≤ 8 ∧ σ = [some (.d (.int lot)), some (.loc 0), some (.d (.int i))] ∧ l = [.lst (natsD ((List.range i).filter fun t => lot.testBit t))]) (fun σ _ => match σ with | [_, _, some (.d (.int i))] => 8 - i.toNat | _ => 0) ⟨0, by omega, rfl, rfl⟩ ?_
  rintro σ l ⟨i, hi, rfl, rfl⟩
  walk_at "q"
  have e1 : ((lot : Int) / 2 ^ (i : Int).toNat) = ((lot / 2 ^ i : Nat) : Int) := by
    rw [Int.toNat_natCast, Int.natCast_ediv, Int.natCast_pow]
    rfl
  have en : (natsD ((List.range i).filter fun t => lot.testBit t)).length ≤ 8 := by
    rw [natsD_len]
    exact Nat.le_trans (List.length_filter_le _ _) (by simp; exact hi)
  refine ⟨by omega, ?_⟩
  rw [e1]
  split
  · rename_i h1
    have hi8 : i < 8 := by
      refine Classical.byContradiction fun hc => ?_
      have e8 : i = 8 := by omega
      subst e8
      rw [Nat.div_eq_of_lt hl] at h1
      exact absurd h1 (by decide)
    refine ⟨by omega, ?_⟩
    have hb : (Builtin.bitAnd ((lot / 2 ^ i : Nat) : Int) 1 = 1) ↔ lot.testBit i = true := by
      rw [bitAnd_m1, Nat.testBit_eq_decide_div_mod_eq, decide_eq_true_eq]
      omega
    have e2 : ((i : Int) + 1) = ((i + 1 : Nat) : Int) := rfl
    split
    · rename_i h2
      refine ⟨Nat.lt_of_le_of_lt en (by decide), _, ?_, rfl, i + 1, by omega, rfl, ?_⟩
      · omega
      · rw [List.range_succ, List.filter_append, natsD_app]
        simp [hb.mp h2, natsD]
    · rename_i h2
      refine ⟨_, ?_, rfl, i + 1, by omega, rfl, ?_⟩
      · omega
      · rw [List.range_succ, List.filter_append, natsD_app]
        have : lot.testBit i = false := by
          rw [← Bool.not_eq_true]
          exact fun z => h2 (hb.mpr z)
        simp [this, natsD]
  · rename_i h1
    have h0 : lot / 2 ^ i = 0 := Nat.eq_zero_of_not_pos fun z => h1 (Int.ofNat_lt.mpr z)
    have hlt : lot < 2 ^ i := by
      rcases Nat.div_eq_zero_iff.mp h0 with z | z
      · exact absurd z (Nat.ne_of_gt (Nat.two_pow_pos i))
      · exact z
    have e : bits 8 lot = (List.range i).filter fun t => lot.testBit t := by
      unfold bits
      rw [show (8 : Nat) = i + (8 - i) by omega, List.range_add, List.filter_append]
      have : ((List.range (8 - i)).map (i + ·)).filter (fun t => lot.testBit t) = [] := by
        rw [List.filter_eq_nil_iff]
        intro t ht
        obtain ⟨u, _, rfl⟩ := List.mem_map.mp ht
        rw [Bool.not_eq_true]
        exact Nat.testBit_lt_two_pow (Nat.lt_of_lt_of_le hlt (Nat.pow_le_pow_right (by decide) (by omega)))
      rw [this, List.append_nil]
    rw [e] at q
    exact q
structure Cs_classes_by (P : Program) (w : World) (K : PySem.W.Frag) (mg : Str → Option Value) (base : Heap) : Prop where
  members : CalQ P w K mg base 1 "members" 1 fs_members
theorem ok_classes_by {f : Addr} {fd : FuncData} (F : Fun K "classes_by" "classes_by" s_classes_by f fd) (B : Bt mg) (C : Cs_classes_by P w K mg base) : FnOk P w K mg base (L2N.CX P w) 2 f fd ["values", "lot"] (spQ K 2 fs_classes_by) := by
  have nd := sc_classes_by.nd
  refine fun_q (k := 1) F sc_classes_by 2 rfl (fun cdv A outer s H E hr tk => (qss_cons (qs_set (i := 2) nd rfl (by first | exact Or.inl rfl | exact Or.inr rfl) qe_newK)
    (qss_cons (qs_for (passes_of rfl) rfl (qi_tup (pi_tup (qe_call C.members hr (by decide) tk (by rfl) (qa_cons (qe_var 1) qa_nil)))) (qg_name (i := 3) nd rfl (by first | exact Or.inl rfl | exact Or.inr rfl)) (qss_one (qs_asg (qe_op op_add ref_I0 (qe_get2 hr.u1 (qe_var 2) (qe_ix (qe_var 0) (qe_var 3) (fun _ _ => rfl)) qe_int ⟨rfl, rfl, rfl, rfl⟩) (qe_op op_shl ref_II qe_int (qe_var 3))) (qg_subD (W := W0) hr.u1 (qe_var 2) (qe_ix (qe_var 0) (qe_var 3) (fun _ _ => rfl))))))
    (qss_one (qs_ret (qe_ice (qe_var 2))))))) (fun ds l Qd Ed hl h => ?_)
  obtain ⟨v, lot, rfl, rfl, hl, hv, q⟩ := h
  walk_at "q"
  refine ⟨lot, rfl, rfl, hl, ?_⟩
  walk_at "q"
  refine loopX (fun i σ l => ∃ x, σ = [some (.d (.tup (natsD v))), some (.d (.int lot)), some (.loc 0), x] ∧ l = [.dk (kvD (clsL v ((bits 8 lot).take i)))]) ⟨_, rfl, rfl⟩ ?_ ?_
  · rintro i x σ l hx ⟨y, rfl, rfl⟩
    unfold natsD at hx
    rw [List.getElem?_map] at hx
    obtain ⟨t, ht, rfl⟩ := Option.map_eq_some_iff.mp hx
    have htm := List.mem_of_getElem? ht
    have htv := hv t htm
    have ht8 : t < 8 := List.mem_range.mp (List.mem_filter.mp htm).1
    walk_at "q"
    have hat := natsD_at (v := v) htv
    have ok := cls_ok v ((bits 8 lot).take i)
    have ho : (valD (kvD (clsL v ((bits 8 lot).take i))) (Sum.inl ((val v t : Nat) : Int))).getD (D.int 0) = D.int (((getC (clsL v ((bits 8 lot).take i)) (val v t)).getD 0 : Nat) : Int) := by
      rw [valD_kv]
      cases getC (clsL v ((bits 8 lot).take i)) (val v t) <;> rfl
    have hc : CPow 1 (t : Int) := by
      unfold CPow
      exact ⟨by omega, by omega, by decide⟩
    refine ⟨_, hat, _, rfl, hc, ?_⟩
    rw [ho]
    have hp : (1 : Int) * 2 ^ (t : Int).toNat = ((2 ^ t : Nat) : Int) := by
      rw [Int.one_mul, Int.toNat_natCast, Int.natCast_pow]
      rfl
    rw [hp]
    have hlen : (kvD (clsL v ((bits 8 lot).take i))).length < sizeLine := by
      rw [kvD_len]
      refine Nat.lt_of_le_of_lt (cls_len _ _) (Nat.lt_of_le_of_lt (List.length_take_le' _ _) (Nat.lt_of_le_of_lt (bits_len _ _) (by decide)))
    refine ⟨_, hat, hlen, _, rfl, _, rfl, ?_⟩
    rw [List.take_add_one, ht, Option.toList_some]
    have e : clsL v ((bits 8 lot).take i ++ [t]) = ins (clsL v ((bits 8 lot).take i)) (val v t) (2 ^ t) := by simp [clsL]
    rw [e, ← put_kv ok.nd]
    rfl
  · rintro σ l ⟨y, rfl, rfl⟩
    walk_at "q"
    rw [natsD_len, List.take_length]
    exact q
theorem ok_worst_of {f : Addr} {fd : FuncData} (F : Fun K "worst_of" "worst_of" s_worst_of f fd) (B : Bt mg) : FnOk P w K mg base (L2N.CX P w) 1 f fd ["depths", "classes"] (spQ K 2 fs_worst_of) := by
  have nd := sc_worst_of.nd
  refine fun_q (k := 0) F sc_worst_of 2 rfl (fun cdv A outer s H E hr tk => (qss_cons (qs_set (i := 2) nd rfl (by first | exact Or.inl rfl | exact Or.inr rfl) qe_int)
    (qss_cons (qs_for (passes_of rfl) rfl (qi_keys (qe_ice (qe_var 1))) (qg_name (i := 3) nd rfl (by first | exact Or.inl rfl | exact Or.inr rfl)) (qss_cons (qs_set (i := 4) nd rfl (by first | exact Or.inl rfl | exact Or.inr rfl) (qe_ix (qe_var 0) (qe_dget hr.u1 (qe_var 1) (qe_var 3) (fun _ _ => rfl)) (fun _ _ => rfl)))
    (qss_cons (qs_if (qt_cmp (op_isN) ref_isN (qe_var 4) qe_non (nomark _)) (qss_one (qs_ret qe_non)) qss_nil)
    (qss_one (qs_set (i := 2) nd rfl (by first | exact Or.inl rfl | exact Or.inr rfl) (qe_callB (call_max2 rfl) ref_int2 (by rfl) B.max (by decide +kernel) (qa_cons (qe_var 2) (qa_cons (qe_var 4) qa_nil))))))))
    (qss_one (qs_ret (qe_var 2)))))) (fun ds l Qd Ed hl h => ?_)
  obtain ⟨ds, kvs, rfl, rfl, hn, hk, q⟩ := h
  walk_at "q"
  refine loopX (fun i σ l => ∃ (w : Nat) (x y : Option QL.P), worst (fun m => ds.getD m none) ((kvs.map (·.2)).take i) = some w ∧ σ = [some (.loc 0), some (.d (.dk ((kvD kvs).map (·.1)) ((kvD kvs).map (·.2)))), some (.d (.int w)), x, y] ∧ l = [.lst (ds.map optD)]) ⟨0, _, _, rfl, rfl, rfl⟩ ?_ ?_
  · rintro i x σ l hx ⟨w, y, z, hw, rfl, rfl⟩
    obtain ⟨kv, hkv, rfl⟩ : ∃ kv, kvs[i]? = some kv ∧ x = .int (kv.1 : Nat) := by
      unfold keysK kvD at hx
      rw [List.map_map, List.map_map, List.getElem?_map] at hx
      obtain ⟨kv, h1, rfl⟩ := Option.map_eq_some_iff.mp hx
      exact ⟨kv, h1, rfl⟩
    have hm := List.mem_of_getElem? hkv
    have hz := kv_zip kvs
    have hvd : valD (kvD kvs) (Sum.inl ((kv.1 : Nat) : Int)) = some (D.int (kv.2 : Nat)) := by
      rw [valD_kv, getC_mem hn (v := kv.1) (m := kv.2) hm]
      rfl
    have hlt := hk kv hm
    have hat : atI (ds.map optD) ((kv.2 : Nat) : Int) = some (optD (ds.getD kv.2 none)) := by
      have e : ds[kv.2]? = some (ds.getD kv.2 none) := by
        rw [List.getD_eq_getElem?_getD, List.getElem?_eq_getElem hlt]
        rfl
      exact atI_m (f := optD) rfl e
    have ew : worst (fun m => ds.getD m none) ((kvs.map (·.2)).take (i + 1)) = wStep (fun m => ds.getD m none) (some w) kv.2 := by
      rw [List.take_add_one, List.getElem?_map, hkv]
      show worst _ (_ ++ [kv.2]) = _
      rw [worst_app, hw]
    walk_at "q"
    rw [hz]
    refine ⟨D.int (kv.2 : Nat), hvd, ?_⟩
    refine ⟨optD (ds.getD kv.2 none), hat, ?_⟩
    cases hd : ds.getD kv.2 none with
    | none =>
      have e0 : ∀ j, i + 1 + j = kvs.length → worst (fun m => ds.getD m none) (kvs.map (·.2)) = none := fun j hj => by
        rw [← List.take_append_drop (i + 1) (kvs.map (·.2))]
        unfold worst at ew ⊢
        rw [List.foldl_append, ew]
        have : wStep (fun m => ds.getD m none) (some w) kv.2 = none := by
          unfold wStep
          simp only [hd]
        rw [this]
        generalize (kvs.map (·.2)).drop (i + 1) = r
        induction r with
        | nil => rfl
        | cons a r ih => exact ih
      have hi := (List.getElem?_eq_some_iff.mp hkv).1
      rw [e0 (kvs.length - (i + 1)) (by omega)] at q
      exact q
    | some b =>
      have e1 : wStep (fun m => ds.getD m none) (some w) kv.2 = some (max w b) := by
        unfold wStep
        simp only [hd]
      rw [e1] at ew
      refine ⟨max w b, some (.d (.int (kv.1 : Nat))), some (.d (optD (some b))), ew, ?_⟩
      have e2 : (if ((b : Nat) : Int) > ((w : Nat) : Int) then ((b : Nat) : Int) else ((w : Nat) : Int)) = ((max w b : Nat) : Int) := by
        split <;> omega
      rw [← e2]
  · rintro σ l ⟨w, y, z, hw, rfl, rfl⟩
    walk_at "q"
    have e : (keysK ((kvD kvs).map (·.1))).length = (kvs.map (·.2)).length := by simp [keysK, kvD]
    rw [e, List.take_length] at hw
    rw [hw] at q
    exact q
structure Cs_best_at (P : Program) (w : World) (K : PySem.W.Frag) (mg : Str → Option Value) (base : Heap) : Prop where
  classes_by : CalQ P w K mg base 2 "classes_by" 2 fs_classes_by
  worst_of : CalQ P w K mg base 1 "worst_of" 2 fs_worst_of
theorem ok_best_at {f : Addr} {fd : FuncData} (F : Fun K "best_at" "best_at" s_best_at f fd) (B : Bt mg) (C : Cs_best_at P w K mg base) : FnOk P w K mg base (L2N.CX P w) 3 f fd ["asks", "costs", "depths", "lot"] (spQ K 4 fs_best_at) := by
  have nd := sc_best_at.nd
  refine fun_q (k := 2) F sc_best_at 4 rfl (fun cdv A outer s H E hr tk => (qss_cons (qs_set (i := 4) nd rfl (by first | exact Or.inl rfl | exact Or.inr rfl) qe_non)
    (qss_cons (qs_set (i := 5) nd rfl (by first | exact Or.inl rfl | exact Or.inr rfl) qe_non)
    (qss_cons (qs_for (passes_of rfl) rfl (qi_range1 (pi_range1 (by rfl) B.range (qa_cons (qe_callB call_len_seq ref_len (by rfl) B.len (by decide +kernel) (qa_cons (qe_var 0) qa_nil)) qa_nil))) (qg_name (i := 6) nd rfl (by first | exact Or.inl rfl | exact Or.inr rfl)) (qss_cons (qs_set (i := 7) nd rfl (by first | exact Or.inl rfl | exact Or.inr rfl) (qe_call C.classes_by hr (by decide) tk (by rfl) (qa_cons (qe_ix (qe_ix (qe_var 0) (qe_var 6) (fun _ _ => rfl)) qe_int (fun _ _ => rfl)) (qa_cons (qe_var 3) qa_nil))))
    (qss_cons (qs_if (qt_cmp (op_lt) ref_B0 (qe_callB call_lenDc ref_lenDc (by rfl) B.len (by decide +kernel) (qa_cons (qe_var 7) qa_nil)) qe_int (nomark _)) (qss_one qs_continue) qss_nil)
    (qss_cons (qs_set (i := 8) nd rfl (by first | exact Or.inl rfl | exact Or.inr rfl) (qe_call C.worst_of hr (by decide) tk (by rfl) (qa_cons (qe_var 2) (qa_cons (qe_var 7) qa_nil))))
    (qss_one (qs_if (QW.qt (qw_and (qt_cmp (op_notN) ref_notN (qe_var 8) qe_non (nomark _)) (qw_and1 (QW.qt (qw_or (qt_cmp (op_isN) ref_isN (qe_var 4) qe_non (nomark _)) (qw_or1 (qt_cmp (op_lt) ref_B0 (qe_op op_add ref_I0 (qe_var 8) (qe_ix (qe_var 1) (qe_var 6) (fun _ _ => rfl))) (qe_var 4) (nomark _)))))))) (qss_cons (qs_set (i := 4) nd rfl (by first | exact Or.inl rfl | exact Or.inr rfl) (qe_op op_add ref_I0 (qe_var 8) (qe_ix (qe_var 1) (qe_var 6) (fun _ _ => rfl))))
    (qss_one (qs_set (i := 5) nd rfl (by first | exact Or.inl rfl | exact Or.inr rfl) (qe_var 6)))) qss_nil))))))
    (qss_one (qs_ret (qe_tup (qa_cons (qe_var 4) (qa_cons (qe_var 5) qa_nil))))))))) (fun ds l Qd Ed hl h => ?_)
  obtain ⟨As, cs, ds, lot, rfl, rfl, hc, hA, hl, hd, hv, q⟩ := h
  walk_at "q"
  refine ⟨by omega, by omega, ?_⟩
  refine loopR (fun i σ l => ∃ (c : D) (x y z : Option QL.P), σ = [some (.d (asksD As)), some (.d (.lst (natsD cs))), some (.loc 0), some (.d (.int lot)), some (.d (optD (best 8 (fun m => ds.getD m none) ((mkA As cs).take i) lot))), some (.d c), x, y, z] ∧ l = [.lst (ds.map optD)]) ⟨_, _, _, _, rfl, rfl⟩ ?_ ?_
  · rintro i σ l hi ⟨c, x, y, z, rfl, rfl⟩
    have hi : i < As.length := by omega
    have hcs : i < cs.length := by omega
    have haM : As[i] ∈ As := List.getElem_mem hi
    have hak : (mkA As cs)[i]? = some (As[i].1, cs[i]) := by
      unfold mkA
      rw [List.getElem?_zip_eq_some]
      exact ⟨by rw [List.getElem?_map, List.getElem?_eq_getElem hi]; rfl, List.getElem?_eq_getElem hcs⟩
    have hb1 : best 8 (fun m => ds.getD m none) ((mkA As cs).take (i + 1)) lot = bStep 8 (fun m => ds.getD m none) lot (best 8 (fun m => ds.getD m none) ((mkA As cs).take i) lot) (As[i].1, cs[i]) := by
      rw [List.take_add_one, hak]
      exact best_app _ _ _ _ _
    rw [hb1]
    generalize best 8 (fun m => ds.getD m none) ((mkA As cs).take i) lot = B
    walk_at "q"
    refine ⟨_, atI_m (f := fun a : List Nat × List Nat => D.tup [.tup (natsD a.1), .tup (natsD a.2)]) (k := ((i : Nat) : Int)) rfl (get_at hi), _, atI_cons0, ?_⟩
    refine ⟨As[i].1, lot, rfl, rfl, hl, hv _ haM, ?_⟩
    walk_at "q"
    rw [kv_zip, kvD_len]
    have ec : (cm 8 (As[i].1, cs[i]) lot).length = (clsL As[i].1 (bits 8 lot)).length := by simp [cm]
    have hat : atI (natsD cs) ((i : Nat) : Int) = some (.int (cs[i] : Nat)) := atI_m (f := fun n : Nat => D.int (n : Int)) rfl (get_at hcs)
    split
    · rename_i h2
      have e : bStep 8 (fun m => ds.getD m none) lot B (As[i].1, cs[i]) = B := by
        unfold bStep
        rw [if_pos (by rw [ec]; omega)]
      rw [e]
      exact ⟨_, _, _, _, rfl⟩
    · rename_i h2
      have h2' : 2 ≤ (cm 8 (As[i].1, cs[i]) lot).length := by rw [ec]; omega
      have e : bStep 8 (fun m => ds.getD m none) lot B (As[i].1, cs[i]) = match worst (fun m => ds.getD m none) ((clsL As[i].1 (bits 8 lot)).map (·.2)), B with
        | none, b => b
        | some w, none => some (w + cs[i])
        | some w, some x => if w + cs[i] < x then some (w + cs[i]) else some x := by
        unfold bStep
        rw [if_neg (by omega)]
        rfl
      rw [e]
      refine ⟨ds, clsL As[i].1 (bits 8 lot), rfl, rfl, (cls_ok _ _).nd, fun q hq => ?_, ?_⟩
      · rw [hd]
        exact cm_less (a := (As[i].1, cs[i])) hl h2' (List.mem_map.mpr ⟨q, hq, rfl⟩)
      · cases worst (fun m => ds.getD m none) ((clsL As[i].1 (bits 8 lot)).map (·.2)) with
        | none =>
          walk_at "q"
          simp only [optD, reduceCtorEq, Bool.true_eq_false, Bool.false_eq_true, if_true, if_false]
          exact ⟨_, _, _, _, rfl⟩
        | some w =>
          cases B with
          | none =>
            walk_at "q"
            simp only [optD, reduceCtorEq, Bool.true_eq_false, Bool.false_eq_true, if_true, if_false]
            exact ⟨_, hat, _, _, _, _, rfl⟩
          | some b =>
            walk_at "q"
            simp only [optD, reduceCtorEq, Bool.true_eq_false, Bool.false_eq_true, if_true, if_false]
            refine ⟨_, hat, ?_⟩
            dsimp only
            by_cases hw : w + cs[i] < b
            · rw [if_pos hw]
              rw [if_pos (by omega)]
              exact ⟨_, hat, _, _, _, _, rfl⟩
            · rw [if_neg hw]
              rw [if_neg (by omega)]
              exact ⟨_, _, _, _, rfl⟩
  · rintro σ l ⟨c, x, y, z, rfl, rfl⟩
    walk_at "q"
    have e : (mkA As cs).take As.length = mkA As cs := List.take_of_length_le (by simp [mkA, hc])
    simp only [Int.toNat_natCast, e] at *
    exact q c
structure Cs_solved (P : Program) (w : World) (K : PySem.W.Frag) (mg : Str → Option Value) (base : Heap) : Prop where
  members : CalQ P w K mg base 1 "members" 1 fs_members
  best_at : CalQ P w K mg base 3 "best_at" 4 fs_best_at
theorem ok_solved {f : Addr} {fd : FuncData} (F : Fun K "solved" "solved" s_solved f fd) (B : Bt mg) (C : Cs_solved P w K mg base) (M : Mg K mg) (R : Rs P w K mg base) : FnOk P w K mg base (L2N.CX P w) 4 f fd ["asks", "costs", "many"] (spQ K 3 fs_solved) := by
  have nd := sc_solved.nd
  refine fun_q (k := 3) F sc_solved 3 rfl (fun cdv A outer s H E hr tk => (qss_cons (qs_if (qt_cmp (op_gt) ref_B0 (qe_var 2) (qe_glob (by rfl) M.MOST_THINGS (fun _ => RD.int _)) (nomark _)) (qss_one (qs_raise rfl R.TooMany hr (by decide) tk (by rfl) (qa_cons (qe_glob (by rfl) M.MOST_THINGS (fun _ => RD.int _)) qa_nil))) qss_nil)
    (qss_cons (qs_set (i := 3) nd rfl (by first | exact Or.inl rfl | exact Or.inr rfl) (qe_lst (f := .cell) qa_nil))
    (qss_cons (qs_set (i := 4) nd rfl (by first | exact Or.inl rfl | exact Or.inr rfl) (qe_lst (f := .cell) qa_nil))
    (qss_cons (qs_for (passes_of rfl) rfl (qi_range1 (pi_range1 (by rfl) B.range (qa_cons (qe_op op_shl ref_II qe_int (qe_var 2)) qa_nil))) (qg_name (i := 5) nd rfl (by first | exact Or.inl rfl | exact Or.inr rfl)) (qss_one (qs_if (qt_cmp (op_lt) ref_B0 (qe_callB call_len_seq ref_len (by rfl) B.len (by decide +kernel) (qa_cons (qe_call C.members hr (by decide) tk (by rfl) (qa_cons (qe_var 5) qa_nil)) qa_nil)) qe_int (nomark _)) (qss_cons (qs_expr (qe_bm PySem.F.slot_list_append PySem.F.type_list_append mt_append ref_append (qe_var 3) (qa_cons qe_int qa_nil)))
    (qss_one (qs_expr (qe_bm PySem.F.slot_list_append PySem.F.type_list_append mt_append ref_append (qe_var 4) (qa_cons qe_non qa_nil))))) (qss_cons (qs_asg (qe_call C.best_at hr (by decide) tk (by rfl) (qa_cons (qe_var 0) (qa_cons (qe_var 1) (qa_cons (qe_var 3) (qa_cons (qe_var 5) qa_nil))))) (qg_tup (n := 2) rfl (qgs_cons (qg_name (i := 6) nd rfl (by first | exact Or.inl rfl | exact Or.inr rfl)) (qgs_cons (qg_name (i := 7) nd rfl (by first | exact Or.inl rfl | exact Or.inr rfl)) qgs_nil))))
    (qss_cons (qs_expr (qe_bm PySem.F.slot_list_append PySem.F.type_list_append mt_append ref_append (qe_var 3) (qa_cons (qe_var 6) qa_nil)))
    (qss_one (qs_expr (qe_bm PySem.F.slot_list_append PySem.F.type_list_append mt_append ref_append (qe_var 4) (qa_cons (qe_var 7) qa_nil)))))))))
    (qss_one (qs_ret (qe_tup (qa_cons (qe_ice (qe_var 3)) (qa_cons (qe_ice (qe_var 4)) qa_nil)))))))))) (fun ds l Qd Ed hl h => ?_)
  obtain ⟨As, cs, n, rfl, rfl, hc, hA, hn, q, q2⟩ := h
  walk_at "q"
  split
  · rename_i h8
    exact q2 (by omega) _
  · rename_i h8
    have hn8 : n ≤ 8 := by omega
    have e2 : (1 : Int) * 2 ^ (n : Int).toNat = ((2 ^ n : Nat) : Int) := by
      rw [Int.one_mul, Int.toNat_natCast, Int.natCast_pow]
      rfl
    have hle : 2 ^ n ≤ 2 ^ 8 := Nat.pow_le_pow_right (by decide) hn8
    rw [e2, Int.toNat_natCast]
    have hle' : 2 ^ n ≤ 256 := hle
    refine ⟨⟨by omega, by omega, by decide⟩, ?_, ?_, ?_⟩
    · exact Int.le_trans (by decide) (Int.natCast_nonneg _)
    · exact Int.lt_of_le_of_lt (Int.ofNat_le.mpr hle') (by decide)
    refine loopR (fun i σ l => ∃ (fs : List D) (x y z : Option QL.P), fs.length = i ∧ σ = [some (.d (asksD As)), some (.d (.lst (natsD cs))), some (.d (.int n)), some (.loc 0), some (.loc 1), x, y, z] ∧ l = [.lst ((depL 8 (mkA As cs) i).map optD), .lst fs]) ⟨[], _, _, _, rfl, rfl, rfl⟩ ?_ ?_
    · rintro i σ l hi ⟨fs, x, y, z, hf, rfl, rfl⟩
      have hi8 : i < 2 ^ 8 := by omega
      have hsz : ∀ k : Nat, k ≤ 300 → k < sizeLine := fun k hk => Nat.lt_of_le_of_lt hk (by decide)
      walk_at "q"
      refine ⟨i, rfl, rfl, hi8, ?_⟩
      walk_at "q"
      rw [natsD_len]
      have ed : depL 8 (mkA As cs) (i + 1) = depL 8 (mkA As cs) i ++ [if (bits 8 i).length < 2 then some 0 else best 8 (fun m => (depL 8 (mkA As cs) i).getD m none) (mkA As cs) i] := rfl
      split
      · rename_i h2
        rw [if_pos (show (bits 8 i).length < 2 by omega)] at ed
        refine ⟨by rw [depL_len]; exact hsz _ (by omega), hsz _ (by omega), fs ++ [.non], _, _, _, by simp [hf], rfl, ?_⟩
        rw [ed, List.map_append]
        rfl
      · rename_i h2
        rw [if_neg (show ¬ (bits 8 i).length < 2 by omega)] at ed
        refine ⟨As, cs, depL 8 (mkA As cs) i, i, rfl, rfl, hc, hA, hi8, depL_len _ _ _, fun a ha t ht => by rw [hn a ha]; exact bits_lt hi ht, fun c => ?_⟩
        walk_at "q"
        refine ⟨by rw [depL_len]; exact hsz _ (by omega), hsz _ (by omega), fs ++ [c], _, _, _, by simp [hf], rfl, ?_⟩
        rw [ed, List.map_append]
        rfl
    · rintro σ l ⟨fs, x, y, z, hf, rfl, rfl⟩
      walk_at "q"
      exact q hn8 fs
structure Cs_ask_depths (P : Program) (w : World) (K : PySem.W.Frag) (mg : Str → Option Value) (base : Heap) : Prop where
  solved : CalQ P w K mg base 4 "solved" 3 fs_solved
theorem ok_ask_depths {f : Addr} {fd : FuncData} (F : Fun K "ask_depths" "ask_depths" s_ask_depths f fd) (B : Bt mg) (C : Cs_ask_depths P w K mg base) : FnOk P w K mg base (L2N.CX P w) 5 f fd ["asks", "many"] (spQ K 2 fs_ask_depths) := by
  have nd := sc_ask_depths.nd
  refine fun_q (k := 4) F sc_ask_depths 2 rfl (fun cdv A outer s H E hr tk => (qss_cons (qs_asg (qe_call C.solved hr (by decide) tk (by rfl) (qa_cons (qe_var 0) (qa_cons (qe_lc (f := .frz) (own := [("ask", 4)]) rfl nd (qi_tup (pi_tup (qe_var 0))) (blkOk_by (N := N_ask_depths) (sc := defScope s_ask_depths) (by decide +kernel)) (fun _ _ _ _ _ => (qgv_name (i := 4) (by decide) nd rfl (by first | exact Or.inl rfl | exact Or.inr rfl))) (fun _ _ _ _ _ => qts_nil) (fun _ _ _ _ _ => qe_int)) (qa_cons (qe_var 1) qa_nil)))) (qg_tup (n := 2) rfl (qgs_cons (qg_name (i := 2) nd rfl (by first | exact Or.inl rfl | exact Or.inr rfl)) (qgs_cons (qg_name (i := 3) nd rfl (by first | exact Or.inl rfl | exact Or.inr rfl)) qgs_nil))))
    (qss_one (qs_ret (qe_callTy call_tuple_of ref_tuple (by rfl) B.tuple (by decide +kernel) (qa_cons (qe_var 2) qa_nil)))))) (fun ds l Qd Ed hl h => ?_)
  obtain ⟨As, n, rfl, rfl, hA, hn, q, q2⟩ := h
  walk_at "q"
  refine lcI (fun i acc l => acc = natsD ((As.take i).map fun _ => 1) ∧ l = []) (by rw [List.length_map]; exact Nat.lt_of_le_of_lt hA (by decide)) ⟨rfl, rfl⟩ ?_ ?_
  · rintro i x acc l hx ha ⟨rfl, rfl⟩
    rw [List.getElem?_map] at hx
    obtain ⟨a, ha1, rfl⟩ := Option.map_eq_some_iff.mp hx
    have hi := (List.getElem?_eq_some_iff.mp ha1).1
    walk_at "q"
    refine ⟨⟨by rw [ha], by omega⟩, ?_⟩
    rw [List.take_add_one, ha1, Option.toList_some, List.map_append, natsD_app]
    simp [natsD]
  · rintro acc l ha ⟨rfl, rfl⟩
    rw [List.length_map, List.take_length]
    walk_at "q"
    refine ⟨As, ones As, n, rfl, rfl, by simp [ones], hA, hn, fun h8 fs => ?_, fun h8 l' => ?_⟩
    · walk_at "q"
      exact q h8
    · exact q2 h8 _
structure Cs_row_depths (P : Program) (w : World) (K : PySem.W.Frag) (mg : Str → Option Value) (base : Heap) : Prop where
  solved : CalQ P w K mg base 4 "solved" 3 fs_solved
theorem ok_row_depths {f : Addr} {fd : FuncData} (F : Fun K "row_depths" "row_depths" s_row_depths f fd) (B : Bt mg) (C : Cs_row_depths P w K mg base) : FnOk P w K mg base (L2N.CX P w) 5 f fd ["asks", "many"] (spQ K 2 fs_row_depths) := by
  have nd := sc_row_depths.nd
  refine fun_q (k := 4) F sc_row_depths 2 rfl (fun cdv A outer s H E hr tk => (qss_cons (qs_asg (qe_call C.solved hr (by decide) tk (by rfl) (qa_cons (qe_var 0) (qa_cons (qe_lc (f := .frz) (own := [("values", 4), ("ledger", 5)]) rfl nd (qi_tup (pi_tup (qe_var 0))) (blkOk_by (N := N_row_depths) (sc := defScope s_row_depths) (by decide +kernel)) (fun _ _ _ _ _ => (qgv_tup (n := 2) rfl (qgvs_cons (qgv_name (i := 4) (by decide) nd rfl (by first | exact Or.inl rfl | exact Or.inr rfl)) (qgvs_cons (qgv_name (i := 5) (by decide) nd rfl (by first | exact Or.inl rfl | exact Or.inr rfl)) qgvs_nil)))) (fun _ _ _ _ _ => qts_nil) (fun _ _ _ _ _ => (qe_callB call_len_seq ref_len (by rfl) B.len (by decide +kernel) (qa_cons (qe_var 5) qa_nil)))) (qa_cons (qe_var 1) qa_nil)))) (qg_tup (n := 2) rfl (qgs_cons (qg_name (i := 2) nd rfl (by first | exact Or.inl rfl | exact Or.inr rfl)) (qgs_cons (qg_name (i := 3) nd rfl (by first | exact Or.inl rfl | exact Or.inr rfl)) qgs_nil))))
    (qss_one (qs_ret (qe_callTy call_tuple_of ref_tuple (by rfl) B.tuple (by decide +kernel) (qa_cons (qe_var 2) qa_nil)))))) (fun ds l Qd Ed hl h => ?_)
  obtain ⟨As, n, rfl, rfl, hA, hn, q, q2⟩ := h
  walk_at "q"
  refine lcI (fun i acc l => acc = natsD ((As.take i).map fun a => a.2.length) ∧ l = []) (by rw [List.length_map]; exact Nat.lt_of_le_of_lt hA (by decide)) ⟨rfl, rfl⟩ ?_ ?_
  · rintro i x acc l hx ha ⟨rfl, rfl⟩
    rw [List.getElem?_map] at hx
    obtain ⟨a, ha1, rfl⟩ := Option.map_eq_some_iff.mp hx
    have hi := (List.getElem?_eq_some_iff.mp ha1).1
    walk_at "q"
    refine ⟨⟨by rw [ha], by omega⟩, ?_⟩
    rw [List.take_add_one, ha1, Option.toList_some, List.map_append, natsD_app]
    simp [natsD]
  · rintro acc l ha ⟨rfl, rfl⟩
    rw [List.length_map, List.take_length]
    walk_at "q"
    refine ⟨As, lens As, n, rfl, rfl, by simp [lens], hA, hn, fun h8 fs => ?_, fun h8 l' => ?_⟩
    · walk_at "q"
      exact q h8
    · exact q2 h8 _
structure Cs_law_told (P : Program) (w : World) (K : PySem.W.Frag) (mg : Str → Option Value) (base : Heap) : Prop where
  ask_depths : CalQ P w K mg base 5 "ask_depths" 2 fs_ask_depths
  row_depths : CalQ P w K mg base 5 "row_depths" 2 fs_row_depths
theorem ok_law_told {f : Addr} {fd : FuncData} (F : Fun K "_law_told" "_law_told" s_law_told f fd) (B : Bt mg) (C : Cs_law_told P w K mg base) (Y : Ys K mg) : FnOk P w K mg base (L2N.CX P w) 6 f fd ["rows", "asks", "many"] (spQ K 3 fs_law_told) := by
  have nd := sc_law_told.nd
  refine fun_q (k := 5) F sc_law_told 3 rfl (fun cdv A outer s H E hr tk => (qss_one (qs_try_as (i := 3) (m := tab_TooMany) rfl rfl nd rfl rfl ⟨by rfl, by decide, .inl Y.cm_TooMany⟩ tk Y.ex_TooMany (fun W1 pn xe tk po => (qss_cons (qs_if (qt_val (qe_var 0)) (qss_one (qs_ret (qe_tup (qa_cons qe_bl (qa_cons (qe_call C.row_depths hr (by decide) tk (by rfl) (qa_cons (qe_var 1) (qa_cons (qe_var 2) qa_nil))) qa_nil))))) qss_nil)
    (qss_one (qs_ret (qe_tup (qa_cons qe_bl (qa_cons (qe_call C.ask_depths hr (by decide) tk (by rfl) (qa_cons (qe_var 1) (qa_cons (qe_var 2) qa_nil))) qa_nil))))))) (fun a oe cls d pn hN hv => have hz := L2N.Zn.zc hN; (qss_one (qs_ret (qe_tup (qa_cons qe_bl (qa_cons (qe_xf Y.xf_limit hz hv (qe_var 3)) qa_nil))))))))) (fun ds l Qd Ed hl h => ?_)
  obtain ⟨b, As, n, rfl, rfl, hA, hn, q1, q2⟩ := h
  walk_at "q"
  split
  · rename_i hb
    refine ⟨As, n, rfl, rfl, hA, hn, fun h8 => ?_, fun h8 l' => ?_⟩
    · walk_at "q"
      have := q1 h8
      rw [if_pos hb] at this
      exact this
    · refine .inl ⟨by decide, fun a cls d => ?_⟩
      walk_at "q"
      exact ⟨"TooMany", ["limit"], [.int 8], .int 8, rfl, by simp, rfl, q2 h8⟩
  · rename_i hb
    refine ⟨As, n, rfl, rfl, hA, hn, fun h8 => ?_, fun h8 l' => ?_⟩
    · walk_at "q"
      have := q1 h8
      rw [if_neg hb] at this
      exact this
    · refine .inl ⟨by decide, fun a cls d => ?_⟩
      walk_at "q"
      exact ⟨"TooMany", ["limit"], [.int 8], .int 8, rfl, by simp, rfl, q2 h8⟩
theorem ok_is_number {f : Addr} {fd : FuncData} (F : Fun K "is_number" "is_number" s_is_number f fd) (B : Bt mg) : FnOk P w K mg base (L2N.CX P w) 1 f fd ["thing"] (spQ K 1 fs_is_number) := by
  have nd := sc_is_number.nd
  refine fun_q (k := 0) F sc_is_number 1 rfl (fun cdv A outer s H E hr tk => (qss_one (qs_ret (qe_and (qe_callB call_isi ref_isi (by rfl) B.isinstance (by decide +kernel) (qa_cons (qe_var 0) (qa_cons (qe_type (n := "int") (by rfl) B.int (by decide +kernel)) qa_nil))) (qe_one (qe_not (qe_callB call_isi ref_isi (by rfl) B.isinstance (by decide +kernel) (qa_cons (qe_var 0) (qa_cons (qe_type (n := "bool") (by rfl) B.bool (by decide +kernel)) qa_nil))))))))) (fun ds l Qd Ed hl h => ?_)
  obtain ⟨a, rfl, rfl, q⟩ := h
  walk_at "q"
  exact q
theorem ok_is_tuple_of {f : Addr} {fd : FuncData} (F : Fun K "is_tuple_of" "is_tuple_of" s_is_tuple_of f fd) (B : Bt mg) : FnOk P w K mg base (L2N.CX P w) 1 f fd ["thing", "many"] (spQ K 2 fs_is_tuple_of) := by
  have nd := sc_is_tuple_of.nd
  refine fun_q (k := 0) F sc_is_tuple_of 2 rfl (fun cdv A outer s H E hr tk => (qss_one (qs_ret (qe_and (qe_callB call_isi ref_isi (by rfl) B.isinstance (by decide +kernel) (qa_cons (qe_var 0) (qa_cons (qe_type (n := "tuple") (by rfl) B.tuple (by decide +kernel)) qa_nil))) (qe_one (qe_cmp (op_eqD hr.units) ref_eq (qe_callB call_len_seq ref_len (by rfl) B.len (by decide +kernel) (qa_cons (qe_var 0) qa_nil)) (qe_var 1) (nomark _))))))) (fun ds l Qd Ed hl h => ?_)
  obtain ⟨xs, m, rfl, rfl, q⟩ := h
  walk_at "q"
  exact q
theorem ok_are_parted {f : Addr} {fd : FuncData} (F : Fun K "are_parted" "are_parted" s_are_parted f fd) (B : Bt mg) : FnOk P w K mg base (L2N.CX P w) 1 f fd ["asks", "things"] (spQ K 2 fs_are_parted) := by
  have nd := sc_are_parted.nd
  refine fun_q (k := 0) F sc_are_parted 2 rfl (fun cdv A outer s H E hr tk => (qss_cons (qs_for (passes_of rfl) rfl (qi_tup (pi_tup (qe_var 1))) (qg_name (i := 2) nd rfl (by first | exact Or.inl rfl | exact Or.inr rfl)) (qss_one (qs_for (passes_of rfl) rfl (qi_tup (pi_tup (qe_var 1))) (qg_name (i := 3) nd rfl (by first | exact Or.inl rfl | exact Or.inr rfl)) (qss_one (qs_if (QW.qt (qw_and (qt_cmp (op_lt) ref_B0 (qe_var 2) (qe_var 3) (nomark _)) (qw_and1 (qt_not (qt_val (qe_callB (cr_any rfl) ref_any (by rfl) B.any (by decide +kernel) (qa_cons (qe_lc (f := .frz) (own := [("values", 4), ("ledger", 5)]) rfl nd (qi_tup (pi_tup (qe_var 0))) (blkOk_by (N := N_are_parted) (sc := defScope s_are_parted) (by decide +kernel)) (fun _ _ _ _ _ => (qgv_tup (n := 2) rfl (qgvs_cons (qgv_name (i := 4) (by decide) nd rfl (by first | exact Or.inl rfl | exact Or.inr rfl)) (qgvs_cons (qgv_name (i := 5) (by decide) nd rfl (by first | exact Or.inl rfl | exact Or.inr rfl)) qgvs_nil)))) (fun _ _ _ _ _ => qts_nil) (fun _ _ _ _ _ => (qe_cmp (op_neD hr.units) ref_ne (qe_ix (qe_var 4) (qe_var 2) (fun _ _ => rfl)) (qe_ix (qe_var 4) (qe_var 3) (fun _ _ => rfl)) (nomark _)))) qa_nil))))))) (qss_one (qs_ret qe_bl)) qss_nil)))))
    (qss_one (qs_ret qe_bl)))) (fun ds l Qd Ed hl h => ?_)
  obtain ⟨As, ts, rfl, rfl, hA, ht, hv, q⟩ := h
  walk_at "q"
  refine loopX (fun i σ l => ∃ (a b c d : Option QL.P), ((ts.take i).all fun t => ts.all fun u => !decide (t < u) || As.any fun a => decide (val a.1 t ≠ val a.1 u)) = true ∧ σ = [some (.d (asksD As)), some (.d (.tup (natsD ts))), a, b, c, d] ∧ l = []) ⟨_, _, _, _, rfl, rfl, rfl⟩ ?_ ?_
  · rintro i x σ l hx ⟨a, b, c, d, h0, rfl, rfl⟩
    unfold natsD at hx
    rw [List.getElem?_map] at hx
    obtain ⟨t, ht1, rfl⟩ := Option.map_eq_some_iff.mp hx
    have htm := List.mem_of_getElem? ht1
    walk_at "q"
    refine loopX (fun j σ l => ∃ (b c d : Option QL.P), ((ts.take j).all fun u => !decide (t < u) || As.any fun a => decide (val a.1 t ≠ val a.1 u)) = true ∧ σ = [some (.d (asksD As)), some (.d (.tup (natsD ts))), some (.d (.int t)), b, c, d] ∧ l = []) ⟨_, _, _, rfl, rfl, rfl⟩ ?_ ?_
    · rintro j x σ l hx ⟨b, c, d, h1, rfl, rfl⟩
      unfold natsD at hx
      rw [List.getElem?_map] at hx
      obtain ⟨u, hu1, rfl⟩ := Option.map_eq_some_iff.mp hx
      have hum := List.mem_of_getElem? hu1
      walk_at "q"
      have nx : (!decide (t < u) || As.any fun a => decide (val a.1 t ≠ val a.1 u)) = true → ((ts.take (j + 1)).all fun u => !decide (t < u) || As.any fun a => decide (val a.1 t ≠ val a.1 u)) = true := fun h => by
        rw [List.take_add_one, hu1, Option.toList_some, List.all_append, h1]
        simpa using h
      split
      · rename_i htu
        have htu' : t < u := by omega
        refine lcI (fun k acc l => acc = ((As.take k).map fun a => decide (val a.1 t ≠ val a.1 u)).map .bl ∧ l = []) (by rw [List.length_map]; exact Nat.lt_of_le_of_lt hA (by decide)) ⟨rfl, rfl⟩ ?_ ?_
        · rintro k x acc l hx ha ⟨rfl, rfl⟩
          rw [List.getElem?_map] at hx
          obtain ⟨a, ha1, rfl⟩ := Option.map_eq_some_iff.mp hx
          have hk := (List.getElem?_eq_some_iff.mp ha1).1
          have haM := List.mem_of_getElem? ha1
          walk_at "q"
          refine ⟨_, natsD_at (hv a haM t htm), _, natsD_at (hv a haM u hum), by simp [dOk_int], by simp [dOk_int], ⟨by rw [List.length_map, List.length_map] at ha; rw [ha], by omega⟩, ?_⟩
          rw [List.take_add_one, ha1, Option.toList_some, List.map_append, List.map_append, D.eqv_int]
          congr 1
          simp only [List.map_cons, List.map_nil, List.cons.injEq, D.bl.injEq, and_true]
          by_cases e : val a.1 t = val a.1 u
          · simp [e]
          · have e' : ¬ ((val a.1 t : Int) = (val a.1 u : Int)) := fun z => e (by omega)
            simp [e, e']
        · rintro acc l ha ⟨rfl, rfl⟩
          rw [List.length_map, List.take_length]
          walk_at "q"
          refine ⟨_, rfl, ?_⟩
          rw [List.any_map]
          split
          · rename_i h9
            have : (ts.all fun t => ts.all fun u => !decide (t < u) || As.any fun a => decide (val a.1 t ≠ val a.1 u)) = false := by
              rw [← Bool.not_eq_true, List.all_eq_true]
              intro z
              have := List.all_eq_true.mp (z t htm) u hum
              rw [decide_eq_true htu'] at this
              have h9' : (As.any fun a => decide (val a.1 t ≠ val a.1 u)) = false := h9
              rw [h9'] at this
              cases this
            rw [this] at q
            exact q
          · rename_i h9
            refine ⟨_, _, _, nx ?_, rfl⟩
            have h9' : (As.any fun a => decide (val a.1 t ≠ val a.1 u)) = true := by
              rw [← Bool.not_eq_false]
              exact h9
            rw [h9', Bool.or_true]
      · rename_i htu
        exact ⟨_, _, _, nx (by rw [decide_eq_false (by omega)]; rfl), rfl⟩
    · rintro σ l ⟨b, c, d, h1, rfl, rfl⟩
      walk_at "q"
      refine ⟨_, _, _, _, ?_, rfl⟩
      rw [natsD_len, List.take_length] at h1
      rw [List.take_add_one, ht1, Option.toList_some, List.all_append, h0]
      simpa using h1
  · rintro σ l ⟨a, b, c, d, h0, rfl, rfl⟩
    walk_at "q"
    rw [natsD_len, List.take_length] at h0
    rw [h0] at q
    exact q
theorem ok_worst_class {f : Addr} {fd : FuncData} (F : Fun K "worst_class" "worst_class" s_worst_class f fd) (B : Bt mg) : FnOk P w K mg base (L2N.CX P w) 1 f fd ["depths", "classes"] (spQ K 2 fs_worst_class) := by
  have nd := sc_worst_class.nd
  refine fun_q (k := 0) F sc_worst_class 2 rfl (fun cdv A outer s H E hr tk => (qss_cons (qs_setLc (f := .frz) (i := 2) rfl nd rfl rfl (sw_true rfl rfl rfl (by decide +kernel)) (own := [("value", 3)]) (qi_keys (qe_ice (qe_var 1))) (blkOk_by (N := N_worst_class) (sc := defScope s_worst_class) (by decide +kernel)) (fun _ _ _ _ _ => (qgv_name (i := 3) (by decide) nd rfl (by first | exact Or.inl rfl | exact Or.inr rfl))) (fun _ _ _ _ _ => qts_nil) (fun _ _ _ _ _ => (qe_ix (qe_var 0) (qe_dget hr.u1 (qe_var 1) (qe_var 3) (fun _ _ => rfl)) (fun _ _ => rfl))))
    (qss_cons (qs_if (qt_cmp (op_inD hr.u65) ref_inD qe_non (qe_var 2) (by rfl)) (qss_one (qs_ret qe_non)) qss_nil)
    (qss_one (qs_ret (qe_callB (cr_max rfl) ref_max (by rfl) B.max (by decide +kernel) (qa_cons (qe_var 2) qa_nil))))))) (fun ds l Qd Ed hl h => ?_)
  obtain ⟨ds, kvs, rfl, rfl, hn, h0, h1, hk, q⟩ := h
  walk_at "q"
  have hlen : (keysK ((kvD kvs).map (·.1))).length = kvs.length := by simp [keysK, kvD]
  refine lcI (fun i acc l => acc = ((kvs.map (·.2)).take i).map (fun m => optD (ds.getD m none)) ∧ l = []) (by rw [hlen]; exact Nat.lt_of_le_of_lt h1 (by decide)) ⟨rfl, rfl⟩ ?_ ?_
  · rintro i x acc l hx ha ⟨rfl, rfl⟩
    obtain ⟨kv, hkv, rfl⟩ : ∃ kv, kvs[i]? = some kv ∧ x = .int (kv.1 : Nat) := by
      unfold keysK kvD at hx
      rw [List.map_map, List.map_map, List.getElem?_map] at hx
      obtain ⟨kv, h1, rfl⟩ := Option.map_eq_some_iff.mp hx
      exact ⟨kv, h1, rfl⟩
    have hm := List.mem_of_getElem? hkv
    have hz := kv_zip kvs
    have hvd : valD (kvD kvs) (Sum.inl ((kv.1 : Nat) : Int)) = some (D.int (kv.2 : Nat)) := by
      rw [valD_kv, getC_mem hn (v := kv.1) (m := kv.2) hm]
      rfl
    have hlt := hk kv hm
    have hat : atI (ds.map optD) ((kv.2 : Nat) : Int) = some (optD (ds.getD kv.2 none)) := by
      have e : ds[kv.2]? = some (ds.getD kv.2 none) := by
        rw [List.getD_eq_getElem?_getD, List.getElem?_eq_getElem hlt]
        rfl
      exact atI_m (f := optD) rfl e
    have hi := (List.getElem?_eq_some_iff.mp hkv).1
    walk_at "q"
    rw [hz]
    refine ⟨D.int (kv.2 : Nat), hvd, ?_⟩
    refine ⟨optD (ds.getD kv.2 none), hat, ?_⟩
    refine ⟨⟨by rw [List.length_map] at ha; rw [ha], by omega⟩, ?_⟩
    rw [List.take_add_one, List.getElem?_map, hkv, List.map_append]
    rfl
  · rintro acc l ha ⟨rfl, rfl⟩
    rw [hlen, List.take_of_length_le (by simp)]
    walk_at "q"
    refine ⟨dOk_lst.mpr fun x hx => ?_, ?_⟩
    · obtain ⟨m, _, rfl⟩ := List.mem_map.mp hx
      exact dOk_opt _
    · split
      · rename_i h9
        rw [worst_any h9] at q
        exact q
      · rename_i h9
        obtain ⟨e1, e2⟩ := worst_all h9
        refine ⟨_, e1, ?_, fun m hm hy => ?_⟩
        · rw [List.length_map, List.length_map]
          exact List.length_pos_iff.mpr h0
        · obtain ⟨w, e3, rfl⟩ := e2 m hm hy
          rw [e3] at q
          exact q
structure Cs_is_least_depth (P : Program) (w : World) (K : PySem.W.Frag) (mg : Str → Option Value) (base : Heap) : Prop where
  classes_by : CalQ P w K mg base 2 "classes_by" 2 fs_classes_by
  worst_class : CalQ P w K mg base 1 "worst_class" 2 fs_worst_class
theorem ok_is_least_depth {f : Addr} {fd : FuncData} (F : Fun K "is_least_depth" "is_least_depth" s_is_least_depth f fd) (B : Bt mg) (C : Cs_is_least_depth P w K mg base) : FnOk P w K mg base (L2N.CX P w) 3 f fd ["asks", "costs", "depths", "lot"] (spQ K 4 fs_is_least_depth) := by
  have nd := sc_is_least_depth.nd
  refine fun_q (k := 2) F sc_is_least_depth 4 rfl (fun cdv A outer s H E hr tk => (qss_cons (qs_set (i := 4) nd rfl (by first | exact Or.inl rfl | exact Or.inr rfl) (qe_lst (f := .cell) qa_nil))
    (qss_cons (qs_for (passes_of rfl) rfl (qi_range1 (pi_range1 (by rfl) B.range (qa_cons (qe_callB call_len_seq ref_len (by rfl) B.len (by decide +kernel) (qa_cons (qe_var 0) qa_nil)) qa_nil))) (qg_name (i := 5) nd rfl (by first | exact Or.inl rfl | exact Or.inr rfl)) (qss_cons (qs_set (i := 6) nd rfl (by first | exact Or.inl rfl | exact Or.inr rfl) (qe_call C.classes_by hr (by decide) tk (by rfl) (qa_cons (qe_ix (qe_ix (qe_var 0) (qe_var 5) (fun _ _ => rfl)) qe_int (fun _ _ => rfl)) (qa_cons (qe_var 3) qa_nil))))
    (qss_one (qs_if (qt_cmp (op_gt) ref_B0 (qe_callB call_lenDc ref_lenDc (by rfl) B.len (by decide +kernel) (qa_cons (qe_var 6) qa_nil)) qe_int (nomark _)) (qss_cons (qs_set (i := 7) nd rfl (by first | exact Or.inl rfl | exact Or.inr rfl) (qe_call C.worst_class hr (by decide) tk (by rfl) (qa_cons (qe_var 2) (qa_cons (qe_var 6) qa_nil))))
    (qss_one (qs_if (qt_cmp (op_notN) ref_notN (qe_var 7) qe_non (nomark _)) (qss_one (qs_expr (qe_bm PySem.F.slot_list_append PySem.F.type_list_append mt_append ref_append (qe_var 4) (qa_cons (qe_op op_add ref_I0 (qe_var 7) (qe_ix (qe_var 1) (qe_var 5) (fun _ _ => rfl))) qa_nil)))) qss_nil))) qss_nil))))
    (qss_one (qs_ret (qe_and (qe_cmp (op_gt) ref_B0 (qe_callB call_len_seq ref_len (by rfl) B.len (by decide +kernel) (qa_cons (qe_var 4) qa_nil)) qe_int (nomark _)) (qe_one (qe_cmp (op_eqD hr.units) ref_eq (qe_callB (cr_min rfl) ref_min (by rfl) B.min (by decide +kernel) (qa_cons (qe_var 4) qa_nil)) (qe_ix (qe_var 2) (qe_var 3) (fun _ _ => rfl)) (nomark _))))))))) (fun ds l Qd Ed hl h => ?_)
  obtain ⟨As, cs, ds, lot, rfl, rfl, hc, hA, hl, hd, hv, q⟩ := h
  walk_at "q"
  refine ⟨by omega, by omega, ?_⟩
  refine loopR (fun i σ l => ∃ (x y z : Option QL.P), σ = [some (.d (asksD As)), some (.d (.lst (natsD cs))), some (.d (.tup (ds.map optD))), some (.d (.int lot)), some (.loc 0), x, y, z] ∧ l = [.lst (natsD (tots 8 (fun m => ds.getD m none) ((mkA As cs).take i) lot))]) ⟨_, _, _, rfl, rfl⟩ ?_ ?_
  · rintro i σ l hi ⟨x, y, z, rfl, rfl⟩
    have hcs : i < cs.length := by omega
    have haM : As[i] ∈ As := List.getElem_mem hi
    have hak : (mkA As cs)[i]? = some (As[i].1, cs[i]) := by
      unfold mkA
      rw [List.getElem?_zip_eq_some]
      exact ⟨by rw [List.getElem?_map, List.getElem?_eq_getElem hi]; rfl, List.getElem?_eq_getElem hcs⟩
    have hb1 : tots 8 (fun m => ds.getD m none) ((mkA As cs).take (i + 1)) lot = tots 8 (fun m => ds.getD m none) ((mkA As cs).take i) lot ++ (tot 8 (fun m => ds.getD m none) lot (As[i].1, cs[i])).toList := by
      rw [List.take_add_one, hak]
      exact tots_app _ _ _ _ _
    rw [hb1]
    have hlen : (tots 8 (fun m => ds.getD m none) ((mkA As cs).take i) lot).length ≤ 100 := Nat.le_trans (List.length_filterMap_le _ _) (Nat.le_trans (List.length_take_le _ _) (by omega))
    generalize tots 8 (fun m => ds.getD m none) ((mkA As cs).take i) lot = B at hlen ⊢
    walk_at "q"
    refine ⟨_, atI_m (f := fun a : List Nat × List Nat => D.tup [.tup (natsD a.1), .tup (natsD a.2)]) (k := ((i : Nat) : Int)) rfl (get_at hi), _, atI_cons0, ?_⟩
    refine ⟨As[i].1, lot, rfl, rfl, hl, hv _ haM, ?_⟩
    walk_at "q"
    rw [kv_zip, kvD_len]
    have ec : (cm 8 (As[i].1, cs[i]) lot).length = (clsL As[i].1 (bits 8 lot)).length := by simp [cm]
    have hat : atI (natsD cs) ((i : Nat) : Int) = some (.int (cs[i] : Nat)) := atI_m (f := fun n : Nat => D.int (n : Int)) rfl (get_at hcs)
    split
    · rename_i h2
      have h2' : 2 ≤ (cm 8 (As[i].1, cs[i]) lot).length := by rw [ec]; omega
      have e : tot 8 (fun m => ds.getD m none) lot (As[i].1, cs[i]) = (worst (fun m => ds.getD m none) ((clsL As[i].1 (bits 8 lot)).map (·.2))).map (· + cs[i]) := by
        unfold tot
        rw [if_neg (by omega)]
        rfl
      rw [e]
      refine ⟨ds, clsL As[i].1 (bits 8 lot), rfl, rfl, (cls_ok _ _).nd, fun z => by rw [z] at ec; simp only [List.length_nil] at ec; omega, Nat.le_trans (cls_len _ _) (Nat.le_trans (bits_len _ _) (by omega)), fun q hq => ?_, ?_⟩
      · exact Nat.lt_trans (cm_less (a := (As[i].1, cs[i])) hl h2' (List.mem_map.mpr ⟨q, hq, rfl⟩)) hd
      · cases worst (fun m => ds.getD m none) ((clsL As[i].1 (bits 8 lot)).map (·.2)) with
        | none =>
          walk_at "q"
          simp only [optD, reduceCtorEq, Bool.true_eq_false, Bool.false_eq_true, if_true, if_false]
          refine ⟨_, _, _, rfl, ?_⟩
          simp
        | some w =>
          walk_at "q"
          simp only [optD, reduceCtorEq, Bool.true_eq_false, Bool.false_eq_true, if_true, if_false]
          refine ⟨_, hat, by rw [natsD_len]; exact Nat.lt_of_le_of_lt hlen (by decide), _, _, _, rfl, ?_⟩
          simp [natsD]
    · rename_i h2
      have e : tot 8 (fun m => ds.getD m none) lot (As[i].1, cs[i]) = none := by
        unfold tot
        rw [if_pos (by rw [ec]; omega)]
      rw [e]
      refine ⟨_, _, _, rfl, ?_⟩
      simp
  · rintro σ l ⟨x, y, z, rfl, rfl⟩
    walk_at "q"
    rw [natsD_len]
    have e : (mkA As cs).take As.length = mkA As cs := List.take_of_length_le (by simp [mkA, hc])
    simp only [Int.toNat_natCast, e] at *
    have hat : atI (ds.map optD) ((lot : Nat) : Int) = some (optD (ds.getD lot none)) := by
      have e : ds[lot]? = some (ds.getD lot none) := by
        rw [List.getD_eq_getElem?_getD, List.getElem?_eq_getElem hd]
        rfl
      exact atI_m (f := optD) rfl e
    split
    · rename_i h0
      refine ⟨(tots 8 (fun m => ds.getD m none) (mkA As cs) lot).map fun n : Nat => (n : Int), by simp [natsD], by rw [List.length_map]; omega, fun m hm hy => ⟨_, hat, dOk_opt _, ?_⟩⟩
      obtain ⟨m0, hm0, rfl⟩ := List.mem_map.mp hm
      rw [tots_min hm0 fun y hy0 => by
        have := hy _ (List.mem_map.mpr ⟨y, hy0, rfl⟩)
        omega] at q
      have e2 : (D.int (m0 : Int)).eqv (optD (ds.getD lot none)) = sameO (some m0) (ds.getD lot none) := by
        cases ds.getD lot none with
        | none => simp [optD, sameO, D.eqv, D.py, PyData.eqv]
        | some b =>
          show (D.int (m0 : Int)).eqv (D.int (b : Int)) = decide (m0 = b)
          rw [D.eqv_int]
          exact decide_eq_decide.mpr ⟨fun h => by omega, fun h => by omega⟩
      rw [e2]
      exact q
    · rename_i h0
      have h0 : tots 8 (fun m => ds.getD m none) (mkA As cs) lot = [] := by
        cases hh : tots 8 (fun m => ds.getD m none) (mkA As cs) lot with
        | nil => rfl
        | cons a r =>
          rw [hh] at h0
          exact absurd (by simp only [List.length_cons]; omega) h0
      rw [tots_nil h0] at q
      exact q
structure Cs_judge_costs (P : Program) (w : World) (K : PySem.W.Frag) (mg : Str → Option Value) (base : Heap) : Prop where
  is_number : CalQ P w K mg base 1 "is_number" 1 fs_is_number
  members : CalQ P w K mg base 1 "members" 1 fs_members
  is_tuple_of : CalQ P w K mg base 1 "is_tuple_of" 2 fs_is_tuple_of
  are_parted : CalQ P w K mg base 1 "are_parted" 2 fs_are_parted
  is_least_depth : CalQ P w K mg base 3 "is_least_depth" 4 fs_is_least_depth
theorem ok_judge_costs {f : Addr} {fd : FuncData} (F : Fun K "judge_costs" "judge_costs" s_judge_costs f fd) (B : Bt mg) (C : Cs_judge_costs P w K mg base) : FnOk P w K mg base (L2N.CX P w) 4 f fd ["asks", "costs", "many", "depths"] (spQ K 4 fs_judge_costs) := by
  have nd := sc_judge_costs.nd
  refine fun_q (k := 3) F sc_judge_costs 4 rfl (fun cdv A outer s H E hr tk => (qss_cons (qs_if (qt_not (qt_val (qe_call C.is_tuple_of hr (by decide) tk (by rfl) (qa_cons (qe_var 3) (qa_cons (qe_op op_shl ref_II qe_int (qe_var 2)) qa_nil))))) (qss_one (qs_ret qe_bl)) qss_nil)
    (qss_cons (qs_if (qt_not (qt_val (qe_callB (cr_all rfl) ref_all (by rfl) B.all (by decide +kernel) (qa_cons (qe_lc (f := .frz) (own := [("depth", 4)]) rfl nd (qi_tup (pi_tup (qe_var 3))) (blkOk_by (N := N_judge_costs) (sc := defScope s_judge_costs) (by decide +kernel)) (fun _ _ _ _ _ => (qgv_name (i := 4) (by decide) nd rfl (by first | exact Or.inl rfl | exact Or.inr rfl))) (fun _ _ _ _ _ => qts_nil) (fun _ _ _ _ _ => (qe_or (qe_cmp (op_isN) ref_isN (qe_var 4) qe_non (nomark _)) (qe_one (qe_call C.is_number hr (by decide) takes_noneN (by rfl) (qa_cons (qe_var 4) qa_nil)))))) qa_nil)))) (qss_one (qs_ret qe_bl)) qss_nil)
    (qss_cons (qs_for (passes_of rfl) rfl (qi_range1 (pi_range1 (by rfl) B.range (qa_cons (qe_op op_shl ref_II qe_int (qe_var 2)) qa_nil))) (qg_name (i := 5) nd rfl (by first | exact Or.inl rfl | exact Or.inr rfl)) (qss_cons (qs_set (i := 6) nd rfl (by first | exact Or.inl rfl | exact Or.inr rfl) (qe_call C.members hr (by decide) tk (by rfl) (qa_cons (qe_var 5) qa_nil)))
    (qss_one (qs_if (qt_cmp (op_lt) ref_B0 (qe_callB call_len_seq ref_len (by rfl) B.len (by decide +kernel) (qa_cons (qe_var 6) qa_nil)) qe_int (nomark _)) (qss_one (qs_if (qt_cmp (op_neD hr.units) ref_ne (qe_ix (qe_var 3) (qe_var 5) (fun _ _ => rfl)) qe_int (nomark _)) (qss_one (qs_ret qe_bl)) qss_nil)) (qss_one (qs_if (qt_cmp (op_isN) ref_isN (qe_ix (qe_var 3) (qe_var 5) (fun _ _ => rfl)) qe_non (nomark _)) (qss_one (qs_if (qt_val (qe_call C.are_parted hr (by decide) tk (by rfl) (qa_cons (qe_var 0) (qa_cons (qe_var 6) qa_nil)))) (qss_one (qs_ret qe_bl)) qss_nil)) (qss_one (qs_if (QW.qt (qw_or (qt_not (qt_val (qe_call C.are_parted hr (by decide) tk (by rfl) (qa_cons (qe_var 0) (qa_cons (qe_var 6) qa_nil))))) (qw_or1 (qt_not (qt_val (qe_call C.is_least_depth hr (by decide) tk (by rfl) (qa_cons (qe_var 0) (qa_cons (qe_var 1) (qa_cons (qe_var 3) (qa_cons (qe_var 5) qa_nil)))))))))) (qss_one (qs_ret qe_bl)) qss_nil))))))))
    (qss_one (qs_ret qe_bl)))))) (fun ds l Qd Ed hl h => ?_)
  obtain ⟨As, cs, n, rfl, rfl, hc, hA, hn8, hn, q⟩ := h
  walk_at "q"
  have e2 : (1 : Int) * 2 ^ (n : Int).toNat = ((2 ^ n : Nat) : Int) := by
    rw [Int.one_mul, Int.toNat_natCast, Int.natCast_pow]
    rfl
  have hle : 2 ^ n ≤ 2 ^ 8 := Nat.pow_le_pow_right (by decide) hn8
  have hle' : 2 ^ n ≤ 256 := hle
  have hcp : CPow 1 (n : Int) := ⟨by omega, by omega, by decide⟩
  rw [e2]
  refine ⟨hcp, _, _, rfl, rfl, ?_⟩
  rw [List.length_map, depL_len, decide_eq_true rfl]
  walk_at "q"
  refine lcI (fun i acc l => acc = List.replicate i (D.bl true) ∧ l = []) (by rw [List.length_map, depL_len]; exact Nat.lt_of_le_of_lt hle' (by decide)) ⟨rfl, rfl⟩ ?_ ?_
  · rintro i x acc l hx ha ⟨rfl, rfl⟩
    rw [List.getElem?_map] at hx
    obtain ⟨o, ho, rfl⟩ := Option.map_eq_some_iff.mp hx
    have hi := (List.getElem?_eq_some_iff.mp ho).1
    walk_at "q"
    cases o with
    | none =>
      simp only [optD, if_true]
      refine ⟨⟨by simp, by omega⟩, ?_⟩
      exact List.replicate_succ'.symm
    | some b =>
      simp only [optD, Bool.false_eq_true, if_false]
      refine ⟨_, rfl, rfl, ?_⟩
      walk_at "q"
      refine ⟨⟨by simp, by omega⟩, ?_⟩
      exact List.replicate_succ'.symm
  · rintro acc l ha ⟨rfl, rfl⟩
    rw [List.length_map, depL_len]
    walk_at "q"
    rw [e2, Int.toNat_natCast]
    refine ⟨List.replicate (2 ^ n) true, by rw [List.map_replicate], ?_⟩
    rw [if_neg (by simp)]
    refine ⟨hcp, Int.le_trans (by decide) (Int.natCast_nonneg _), Int.lt_of_le_of_lt (Int.ofNat_le.mpr hle') (by decide), ?_⟩
    refine loopR (fun i σ l => ∃ (x y : Option QL.P), σ = [some (.d (asksD As)), some (.d (.lst (natsD cs))), some (.d (.int n)), some (.d (.tup ((depL 8 (mkA As cs) (2 ^ n)).map optD))), none, x, y] ∧ l = []) ⟨_, _, rfl, rfl⟩ ?_ ?_
    · rintro i σ l hi ⟨x, y, rfl, rfl⟩
      have hi8 : i < 2 ^ 8 := by omega
      have hat : atI ((depL 8 (mkA As cs) (2 ^ n)).map optD) ((i : Nat) : Int) = some (optD (dep 8 (mkA As cs) i)) := by
        have e : (depL 8 (mkA As cs) (2 ^ n))[i]? = some (dep 8 (mkA As cs) i) := by
          rw [← depL_get 8 (mkA As cs) (2 ^ n) i hi, List.getD_eq_getElem?_getD, List.getElem?_eq_getElem (by rw [depL_len]; exact hi)]
          rfl
        exact atI_m (f := optD) rfl e
      walk_at "q"
      refine ⟨i, rfl, rfl, hi8, ?_⟩
      walk_at "q"
      rw [natsD_len]
      have hbl : ∀ a ∈ As, ∀ t ∈ bits 8 i, t < a.1.length := fun a ha t ht => by rw [hn a ha]; exact bits_lt hi ht
      split
      · rename_i h2
        rw [dep_small (by omega)] at hat
        refine ⟨_, hat, dOk_opt _, ?_⟩
        rw [show (optD (some 0)).eqv (D.int 0) = true by show (D.int 0).eqv (D.int 0) = true; rw [D.eqv_int]; rfl]
        simp
      · rename_i h2
        have h2' : ¬ (bits 8 i).length < 2 := by omega
        refine ⟨_, hat, ?_⟩
        cases hd : dep 8 (mkA As cs) i with
        | none =>
          simp only [optD, if_true]
          refine ⟨As, bits 8 i, rfl, rfl, hA, bits_len _ _, hbl, ?_⟩
          have hp : ((bits 8 i).all fun t => (bits 8 i).all fun u => !decide (t < u) || As.any fun a => decide (val a.1 t ≠ val a.1 u)) = false := by
            rw [← Bool.not_eq_true, parted_bool hc]
            intro hp
            have := dep_some (C := cs.sum) (mkA_cost fun c hc => le_sum_mem hc) i hi8 hp
            rw [hd] at this
            exact absurd this le_none
          rw [hp]
          walk_at "q"
          exact ⟨_, _, rfl⟩
        | some b =>
          simp only [optD, Bool.false_eq_true, if_false]
          refine ⟨As, bits 8 i, rfl, rfl, hA, bits_len _ _, hbl, ?_⟩
          have hp : ((bits 8 i).all fun t => (bits 8 i).all fun u => !decide (t < u) || As.any fun a => decide (val a.1 t ≠ val a.1 u)) = true := by
            rw [parted_bool hc]
            refine Classical.byContradiction fun hp => ?_
            rw [dep_none i hi8 hp] at hd
            cases hd
          rw [hp]
          walk_at "q"
          refine ⟨As, cs, _, i, rfl, rfl, hc, hA, hi8, by rw [depL_len]; exact hi, hbl, ?_⟩
          have e5 : best 8 (fun m => (depL 8 (mkA As cs) (2 ^ n)).getD m none) (mkA As cs) i = dep 8 (mkA As cs) i := by
            rw [← best_dep hi8 h2']
            refine opt_ext fun k => ?_
            rw [best_le, best_le]
            have hf : ∀ a, fits 8 (fun m => (depL 8 (mkA As cs) (2 ^ n)).getD m none) i k a ↔ fits 8 (dep 8 (mkA As cs)) i k a := fun a => by
              unfold fits
              constructor
              · rintro ⟨g2, q⟩
                rw [worst_congr fun m hm => depL_get 8 (mkA As cs) (2 ^ n) m (Nat.lt_trans (cm_less hi8 g2 hm) hi)] at q
                exact ⟨g2, q⟩
              · rintro ⟨g2, q⟩
                rw [← worst_congr fun m hm => depL_get 8 (mkA As cs) (2 ^ n) m (Nat.lt_trans (cm_less hi8 g2 hm) hi)] at q
                exact ⟨g2, q⟩
            exact ⟨fun ⟨a, ha, z⟩ => ⟨a, ha, (hf a).mp z⟩, fun ⟨a, ha, z⟩ => ⟨a, ha, (hf a).mpr z⟩⟩
          rw [e5, depL_get 8 (mkA As cs) (2 ^ n) i hi, hd, show sameO (some b) (some b) = true from decide_eq_true rfl]
          walk_at "q"
          exact ⟨_, _, rfl⟩
    · rintro σ l ⟨x, y, rfl, rfl⟩
      walk_at "q"
      exact q
structure Cs_judge_depths (P : Program) (w : World) (K : PySem.W.Frag) (mg : Str → Option Value) (base : Heap) : Prop where
  judge_costs : CalQ P w K mg base 4 "judge_costs" 4 fs_judge_costs
theorem ok_judge_depths {f : Addr} {fd : FuncData} (F : Fun K "judge_depths" "judge_depths" s_judge_depths f fd) (B : Bt mg) (C : Cs_judge_depths P w K mg base) : FnOk P w K mg base (L2N.CX P w) 5 f fd ["asks", "many", "depths"] (spQ K 3 fs_judge_depths) := by
  have nd := sc_judge_depths.nd
  refine fun_q (k := 4) F sc_judge_depths 3 rfl (fun cdv A outer s H E hr tk => (qss_one (qs_ret (qe_call C.judge_costs hr (by decide) tk (by rfl) (qa_cons (qe_var 0) (qa_cons (qe_lc (f := .frz) (own := [("ask", 3)]) rfl nd (qi_tup (pi_tup (qe_var 0))) (blkOk_by (N := N_judge_depths) (sc := defScope s_judge_depths) (by decide +kernel)) (fun _ _ _ _ _ => (qgv_name (i := 3) (by decide) nd rfl (by first | exact Or.inl rfl | exact Or.inr rfl))) (fun _ _ _ _ _ => qts_nil) (fun _ _ _ _ _ => qe_int)) (qa_cons (qe_var 1) (qa_cons (qe_var 2) qa_nil)))))))) (fun ds l Qd Ed hl h => ?_)
  obtain ⟨As, n, rfl, rfl, hA, hn8, hn, q⟩ := h
  walk_at "q"
  refine lcI (fun i acc l => acc = natsD ((As.take i).map fun _ => 1) ∧ l = []) (by rw [List.length_map]; exact Nat.lt_of_le_of_lt hA (by decide)) ⟨rfl, rfl⟩ ?_ ?_
  · rintro i x acc l hx ha ⟨rfl, rfl⟩
    rw [List.getElem?_map] at hx
    obtain ⟨a, ha1, rfl⟩ := Option.map_eq_some_iff.mp hx
    have hi := (List.getElem?_eq_some_iff.mp ha1).1
    walk_at "q"
    refine ⟨⟨by rw [ha], by omega⟩, ?_⟩
    rw [List.take_add_one, ha1, Option.toList_some, List.map_append, natsD_app]
    simp [natsD]
  · rintro acc l ha ⟨rfl, rfl⟩
    rw [List.length_map, List.take_length]
    walk_at "q"
    refine ⟨As, ones As, n, rfl, rfl, by simp [ones], hA, hn8, hn, ?_⟩
    walk_at "q"
    exact q
structure Cs_judge_row_depths (P : Program) (w : World) (K : PySem.W.Frag) (mg : Str → Option Value) (base : Heap) : Prop where
  judge_costs : CalQ P w K mg base 4 "judge_costs" 4 fs_judge_costs
theorem ok_judge_row_depths {f : Addr} {fd : FuncData} (F : Fun K "judge_row_depths" "judge_row_depths" s_judge_row_depths f fd) (B : Bt mg) (C : Cs_judge_row_depths P w K mg base) : FnOk P w K mg base (L2N.CX P w) 5 f fd ["asks", "many", "depths"] (spQ K 3 fs_judge_row_depths) := by
  have nd := sc_judge_row_depths.nd
  refine fun_q (k := 4) F sc_judge_row_depths 3 rfl (fun cdv A outer s H E hr tk => (qss_one (qs_ret (qe_call C.judge_costs hr (by decide) tk (by rfl) (qa_cons (qe_var 0) (qa_cons (qe_lc (f := .frz) (own := [("values", 3), ("ledger", 4)]) rfl nd (qi_tup (pi_tup (qe_var 0))) (blkOk_by (N := N_judge_row_depths) (sc := defScope s_judge_row_depths) (by decide +kernel)) (fun _ _ _ _ _ => (qgv_tup (n := 2) rfl (qgvs_cons (qgv_name (i := 3) (by decide) nd rfl (by first | exact Or.inl rfl | exact Or.inr rfl)) (qgvs_cons (qgv_name (i := 4) (by decide) nd rfl (by first | exact Or.inl rfl | exact Or.inr rfl)) qgvs_nil)))) (fun _ _ _ _ _ => qts_nil) (fun _ _ _ _ _ => (qe_callB call_len_seq ref_len (by rfl) B.len (by decide +kernel) (qa_cons (qe_var 4) qa_nil)))) (qa_cons (qe_var 1) (qa_cons (qe_var 2) qa_nil)))))))) (fun ds l Qd Ed hl h => ?_)
  obtain ⟨As, n, rfl, rfl, hA, hn8, hn, q⟩ := h
  walk_at "q"
  refine lcI (fun i acc l => acc = natsD ((As.take i).map fun a => a.2.length) ∧ l = []) (by rw [List.length_map]; exact Nat.lt_of_le_of_lt hA (by decide)) ⟨rfl, rfl⟩ ?_ ?_
  · rintro i x acc l hx ha ⟨rfl, rfl⟩
    rw [List.getElem?_map] at hx
    obtain ⟨a, ha1, rfl⟩ := Option.map_eq_some_iff.mp hx
    have hi := (List.getElem?_eq_some_iff.mp ha1).1
    walk_at "q"
    refine ⟨⟨by rw [ha], by omega⟩, ?_⟩
    rw [List.take_add_one, ha1, Option.toList_some, List.map_append, natsD_app]
    simp [natsD]
  · rintro acc l ha ⟨rfl, rfl⟩
    rw [List.length_map, List.take_length]
    walk_at "q"
    refine ⟨As, lens As, n, rfl, rfl, by simp [lens], hA, hn8, hn, ?_⟩
    walk_at "q"
    exact q
theorem ok_law_truth {f : Addr} {fd : FuncData} (F : Fun K "_law_truth" "_law_truth" s_law_truth f fd) (B : Bt mg) : FnOk P w K mg base (L2N.CX P w) 1 f fd ["thing"] (spQ K 1 fs_law_truth) := by
  have nd := sc_law_truth.nd
  refine fun_q (k := 0) F sc_law_truth 1 rfl (fun cdv A outer s H E hr tk => (qss_cons (qs_set (i := 1) nd rfl (by first | exact Or.inl rfl | exact Or.inr rfl) (qe_lst (f := .cell) (qa_cons (qe_var 0) qa_nil)))
    (qss_cons (qs_while (passes_of rfl) (qt_cmp (op_gt) ref_B0 (qe_callB call_len_seq ref_len (by rfl) B.len (by decide +kernel) (qa_cons (qe_var 1) qa_nil)) qe_int (nomark _)) (qss_cons (qs_set (i := 2) nd rfl (by first | exact Or.inl rfl | exact Or.inr rfl) (qe_bm0 PySem.F.slot_list_pop PySem.F.type_list_pop mt_pop ref_pop (qe_var 1)))
    (qss_cons (qs_if (qt_val (qe_callB call_isi ref_isi (by rfl) B.isinstance (by decide +kernel) (qa_cons (qe_var 2) (qa_cons (qe_type (n := "bool") (by rfl) B.bool (by decide +kernel)) qa_nil)))) (qss_one (qs_ret qe_bl)) qss_nil)
    (qss_one (qs_if (qt_val (qe_callB call_isi ref_isi (by rfl) B.isinstance (by decide +kernel) (qa_cons (qe_var 2) (qa_cons (qe_type (n := "tuple") (by rfl) B.tuple (by decide +kernel)) qa_nil)))) (qss_one (qs_expr (qe_bm PySem.F.slot_list_extend PySem.F.type_list_extend mt_ext ref_extend (qe_var 1) (qa_cons (qe_var 2) qa_nil)))) qss_nil)))))
    (qss_one (qs_ret qe_bl))))) (fun ds l Qd Ed hl h => ?_)
  obtain ⟨d, rfl, rfl, hd, hs, q⟩ := h
  walk_at "q"
  refine whileI (fun σ l => ∃ x ws, σ = [some (.d d), some (.loc 0), x] ∧ l = [.lst ws] ∧ (∀ w ∈ ws, noB w) ∧ D.szs ws ≤ 100000) (fun _ l => match l with | [.lst ws] => D.szs ws | _ => 0) ⟨_, _, rfl, rfl, by simpa using hd, by simp [D.szs]; omega⟩ ?_
  rintro σ l ⟨x, ws, rfl, rfl, hw, hz⟩
  walk_at "q"
  split
  · rename_i h0
    obtain ⟨ys, y, rfl, e1, e2⟩ := last_split (xs := ws) (by rintro rfl; simp at h0)
    have hy : noB y := hw y (by simp)
    have hys : ∀ w ∈ ys, noB w := fun w h => hw w (by simp [h])
    have hsz : D.szs (ys ++ [y]) = D.szs ys + y.sz := by rw [szs_app]; simp [D.szs]
    have hp := sz_pos y
    have hl2 := len_szs ys
    rw [hsz] at hz
    refine ⟨y, e1, ?_⟩
    rw [e2]
    cases y with
    | bl _ => simp [noB] at hy
    | scr _ => simp [noB] at hy
    | ty _ => simp [noB] at hy
    | obj _ _ _ => simp [noB] at hy
    | ktu _ => simp [noB] at hy
    | tux _ => simp [noB] at hy
    | dk _ _ => simp [noB] at hy
    | dt _ _ => simp [noB] at hy
    | non => exact ⟨_, by show D.szs ys < _; omega, rfl, _, _, rfl, rfl, hys, by omega⟩
    | int _ => exact ⟨_, by show D.szs ys < _; omega, rfl, _, _, rfl, rfl, hys, by omega⟩
    | str _ => exact ⟨_, by show D.szs ys < _; omega, rfl, _, _, rfl, rfl, hys, by omega⟩
    | lst _ => exact ⟨_, by show D.szs ys < _; omega, rfl, _, _, rfl, rfl, hys, by omega⟩
    | tup zs =>
      have h3 := len_szs zs
      simp only [D.sz] at hsz hz hp
      have h4 : ys.length + zs.length ≤ sizeLine := Nat.le_of_lt (Nat.lt_of_le_of_lt (show ys.length + zs.length ≤ 100000 by omega) (by decide))
      exact ⟨h4, _, by show D.szs (ys ++ zs) < _; rw [szs_app]; omega, rfl, _, _, rfl, rfl, fun w h => by
        rcases List.mem_append.mp h with h | h
        · exact hys w h
        · exact (by simpa [noB] using hy : ∀ x ∈ zs, noB x) w h, by rw [szs_app]; omega⟩
  · exact q
theorem ok_law_things {f : Addr} {fd : FuncData} (F : Fun K "_law_things" "_law_things" s_law_things f fd) (B : Bt mg) : FnOk P w K mg base (L2N.CX P w) 1 f fd ["lot", "many"] (spQ K 2 fs_law_things) := by
  have nd := sc_law_things.nd
  refine fun_q (k := 0) F sc_law_things 2 rfl (fun cdv A outer s H E hr tk => (qss_one (qs_ret (qe_lc (f := .frz) (own := [("thing", 2)]) rfl nd (qi_range1 (pi_range1 (by rfl) B.range (qa_cons (qe_var 1) qa_nil))) (blkOk_by (N := N_law_things) (sc := defScope s_law_things) (by decide +kernel)) (fun _ _ _ _ _ => (qgv_name (i := 2) (by decide) nd rfl (by first | exact Or.inl rfl | exact Or.inr rfl))) (fun _ _ _ _ _ => (qts_one (qt_cmp (op_eqD hr.units) ref_eq (qe_op op_and ref_I0 (qe_op op_shr ref_II (qe_var 0) (qe_var 2)) qe_int) qe_int (nomark _)))) (fun _ _ _ _ _ => (qe_var 2)))))) (fun ds l Qd Ed hl h => ?_)
  obtain ⟨lot, n, rfl, rfl, hn, hl, q⟩ := h
  walk_at "q"
  refine ⟨by omega, by omega, ?_⟩
  refine lcT (fun i acc l => acc = natsD ((List.range i).filter fun t => lot.testBit t) ∧ l = []) (by rw [rangeD_len]; exact Nat.lt_of_le_of_lt (show _ ≤ 8 by omega) (by decide)) ⟨rfl, rfl⟩ ?_ ?_
  · rintro i x acc l hx ha ⟨rfl, rfl⟩
    obtain ⟨hi, rfl⟩ := rangeD_get hx
    walk_at "q"
    have e1 : ((lot : Int) / 2 ^ (i : Int).toNat) = ((lot / 2 ^ i : Nat) : Int) := by
      rw [Int.toNat_natCast, Int.natCast_ediv, Int.natCast_pow]
      rfl
    have hb : (Builtin.bitAnd ((lot / 2 ^ i : Nat) : Int) 1 = 1) ↔ lot.testBit i = true := by
      rw [bitAnd_m1, Nat.testBit_eq_decide_div_mod_eq, decide_eq_true_eq]
      omega
    refine ⟨by omega, ?_⟩
    rw [e1]
    simp only [Int.toNat_natCast] at *
    split
    · rename_i h2
      refine ⟨⟨by rw [List.length_append]; simp only [List.length_cons, List.length_nil]; omega, by omega⟩, ?_, rfl⟩
      rw [List.range_succ, List.filter_append, natsD_app]
      simp [hb.mp h2, natsD]
    · rename_i h2
      refine ⟨⟨by omega, by omega⟩, ?_, rfl⟩
      rw [List.range_succ, List.filter_append, natsD_app]
      have : lot.testBit i = false := by
        rw [← Bool.not_eq_true]
        exact fun z => h2 (hb.mpr z)
      simp [this, natsD]
  · rintro acc l ha ⟨rfl, rfl⟩
    rw [rangeD_len]
    walk_at "q"
    rw [bits_ext hn hl] at q
    exact q
theorem ok_law_split {f : Addr} {fd : FuncData} (F : Fun K "_law_split" "_law_split" s_law_split f fd) (B : Bt mg) : FnOk P w K mg base (L2N.CX P w) 1 f fd ["values", "things"] (spQ K 2 fs_law_split) := by
  have nd := sc_law_split.nd
  refine fun_q (k := 0) F sc_law_split 2 rfl (fun cdv A outer s H E hr tk => (qss_cons (qs_set (i := 2) nd rfl (by first | exact Or.inl rfl | exact Or.inr rfl) qe_newK)
    (qss_cons (qs_for (passes_of rfl) rfl (qi_lst (qe_var 1)) (qg_name (i := 3) nd rfl (by first | exact Or.inl rfl | exact Or.inr rfl)) (qss_one (qs_asg (qe_op op_add ref_I0 (qe_get2 hr.u1 (qe_var 2) (qe_ix (qe_var 0) (qe_var 3) (fun _ _ => rfl)) qe_int ⟨rfl, rfl, rfl, rfl⟩) (qe_op op_shl ref_II qe_int (qe_var 3))) (qg_subD (W := W0) hr.u1 (qe_var 2) (qe_ix (qe_var 0) (qe_var 3) (fun _ _ => rfl))))))
    (qss_one (qs_ret (qe_lc (f := .frz) (own := [("value", 4)]) rfl nd (qi_lst (qe_callB (cr_sortedDD rfl hr.units) (ref_srtK (f := .frz)) (by rfl) B.sorted (by decide +kernel) (qa_cons (qe_var 2) qa_nil))) (blkOk_by (N := N_law_split) (sc := defScope s_law_split) (by decide +kernel)) (fun _ _ _ _ _ => (qgv_name (i := 4) (by decide) nd rfl (by first | exact Or.inl rfl | exact Or.inr rfl))) (fun _ _ _ _ _ => qts_nil) (fun _ _ _ _ _ => (qe_dget hr.u1 (qe_var 2) (qe_var 4) (fun _ _ => rfl))))))))) (fun ds l Qd Ed hl h => ?_)
  obtain ⟨v, ts, rfl, rfl, hl, hv, q⟩ := h
  walk_at "q"
  refine loopX (fun i σ l => ∃ x y, σ = [some (.d (.tup (natsD v))), some (.d (.lst (natsD ts))), some (.loc 0), x, y] ∧ l = [.dk (kvD (clsL v (ts.take i)))]) ⟨_, _, rfl, rfl⟩ ?_ ?_
  · rintro i x σ l hx ⟨y, z, rfl, rfl⟩
    unfold natsD at hx
    rw [List.getElem?_map] at hx
    obtain ⟨t, ht, rfl⟩ := Option.map_eq_some_iff.mp hx
    have htm := List.mem_of_getElem? ht
    obtain ⟨htv, ht8⟩ := hv t htm
    walk_at "q"
    have hat := natsD_at (v := v) htv
    have ok := cls_ok v (ts.take i)
    have ho : (valD (kvD (clsL v (ts.take i))) (Sum.inl ((val v t : Nat) : Int))).getD (D.int 0) = D.int (((getC (clsL v (ts.take i)) (val v t)).getD 0 : Nat) : Int) := by
      rw [valD_kv]
      cases getC (clsL v (ts.take i)) (val v t) <;> rfl
    have hc : CPow 1 (t : Int) := by
      unfold CPow
      exact ⟨by omega, by omega, by decide⟩
    refine ⟨_, hat, _, rfl, hc, ?_⟩
    rw [ho]
    have hp : (1 : Int) * 2 ^ (t : Int).toNat = ((2 ^ t : Nat) : Int) := by
      rw [Int.one_mul, Int.toNat_natCast, Int.natCast_pow]
      rfl
    rw [hp]
    have hlen : (kvD (clsL v (ts.take i))).length < sizeLine := by
      rw [kvD_len]
      refine Nat.lt_of_le_of_lt (cls_len _ _) (Nat.lt_of_le_of_lt (List.length_take_le' _ _) (Nat.lt_of_le_of_lt hl (by decide)))
    refine ⟨_, hat, hlen, _, rfl, _, _, rfl, ?_⟩
    rw [List.take_add_one, ht, Option.toList_some]
    have e : clsL v (ts.take i ++ [t]) = ins (clsL v (ts.take i)) (val v t) (2 ^ t) := by simp [clsL]
    rw [e, ← put_kv ok.nd]
    rfl
  · rintro σ l ⟨y, z, rfl, rfl⟩
    walk_at "q"
    rw [natsD_len, List.take_length]
    have ok := cls_ok v ts
    have hcl := Nat.le_trans (cls_len v ts) hl
    have ek : keysK ((kvD (clsL v ts)).map (·.1)) = natsD ((clsL v ts).map (·.1)) := by
      unfold keysK kvD natsD
      rw [List.map_map, List.map_map, List.map_map]
      rfl
    rw [ek]
    refine ⟨⟨fun x hx => ?_, fun x hx y hy => ?_, .inr fun x hx => ?_⟩, ?_⟩
    · obtain ⟨n, _, rfl⟩ := List.mem_map.mp hx
      exact dOk_int.mpr trivial
    · obtain ⟨n, _, rfl⟩ := List.mem_map.mp hx
      obtain ⟨m, _, rfl⟩ := List.mem_map.mp hy
      rfl
    · obtain ⟨n, _, rfl⟩ := List.mem_map.mp hx
      exact ⟨by simp [D.py], by simp [D.py]⟩
    obtain ⟨ks, e1, hp⟩ := perm_nats (show (srtD (natsD ((clsL v ts).map (·.1)))).Perm (natsD ((clsL v ts).map (·.1))) from List.mergeSort_perm _ _)
    rw [e1]
    have hkl : ks.length = (clsL v ts).length := by rw [hp.length_eq, List.length_map]
    have hmem : ∀ k, k ∈ ks ↔ ∃ m, (k, m) ∈ clsL v ts := fun k => by
      rw [hp.mem_iff]
      exact ⟨fun h => by
        obtain ⟨q, hq, rfl⟩ := List.mem_map.mp h
        exact ⟨q.2, hq⟩, fun ⟨m, h⟩ => List.mem_map.mpr ⟨_, h, rfl⟩⟩
    refine lcI (fun i acc l => acc = natsD ((ks.take i).map fun k => (getC (clsL v ts) k).getD 0) ∧ l = [.dk (kvD (clsL v ts))]) (by rw [natsD_len]; exact Nat.lt_of_le_of_lt (show _ ≤ 8 by omega) (by decide)) ⟨rfl, rfl⟩ ?_ ?_
    · rintro i x acc l hx ha ⟨rfl, rfl⟩
      unfold natsD at hx
      rw [List.getElem?_map] at hx
      obtain ⟨k, hk, rfl⟩ := Option.map_eq_some_iff.mp hx
      obtain ⟨m, hm⟩ := (hmem k).mp (List.mem_of_getElem? hk)
      have hi := (List.getElem?_eq_some_iff.mp hk).1
      have hvd : valD (kvD (clsL v ts)) (Sum.inl ((k : Nat) : Int)) = some (D.int (m : Nat)) := by
        rw [valD_kv, getC_mem ok.nd hm]
        rfl
      walk_at "q"
      refine ⟨D.int (m : Nat), hvd, ⟨by rw [natsD_len, List.length_map] at ha; rw [natsD_len, List.length_map, ha], by rw [natsD_len]; omega⟩, ?_⟩
      rw [List.take_add_one, hk, Option.toList_some, List.map_append, natsD_app]
      simp [natsD, getC_mem ok.nd hm]
    · rintro acc l ha ⟨rfl, rfl⟩
      rw [natsD_len, List.take_length]
      walk_at "q"
      refine q _ (by rw [List.length_map, hkl]) fun m => ?_
      constructor
      · intro h
        obtain ⟨k, hk, rfl⟩ := List.mem_map.mp h
        obtain ⟨m, hm⟩ := (hmem k).mp hk
        rw [getC_mem ok.nd hm]
        exact List.mem_map.mpr ⟨_, hm, rfl⟩
      · intro h
        obtain ⟨q, hq, rfl⟩ := List.mem_map.mp h
        exact List.mem_map.mpr ⟨q.1, (hmem _).mpr ⟨q.2, hq⟩, by rw [getC_mem ok.nd hq]; rfl⟩
theorem ok_law_settles {f : Addr} {fd : FuncData} (F : Fun K "_law_settles" "_law_settles" s_law_settles f fd) (B : Bt mg) : FnOk P w K mg base (L2N.CX P w) 1 f fd ["told", "rows", "number"] (spQ K 3 fs_law_settles) := by
  have nd := sc_law_settles.nd
  refine fun_q (k := 0) F sc_law_settles 3 rfl (fun cdv A outer s H E hr tk => (qss_cons (qs_for (passes_of rfl) rfl (qi_lst (qe_var 1)) (qg_tup (n := 2) rfl (qgs_cons (qg_name (i := 3) nd rfl (by first | exact Or.inl rfl | exact Or.inr rfl)) (qgs_cons (qg_name (i := 4) nd rfl (by first | exact Or.inl rfl | exact Or.inr rfl)) qgs_nil))) (qss_one (qs_if (qt_val (qe_callB (cr_all rfl) ref_all (by rfl) B.all (by decide +kernel) (qa_cons (qe_lc (f := .frz) (own := [("lot", 5)]) rfl nd (qi_lst (qe_var 4)) (blkOk_by (N := N_law_settles) (sc := defScope s_law_settles) (by decide +kernel)) (fun _ _ _ _ _ => (qgv_name (i := 5) (by decide) nd rfl (by first | exact Or.inl rfl | exact Or.inr rfl))) (fun _ _ _ _ _ => qts_nil) (fun _ _ _ _ _ => (qe_and (qe_cmp (op_notN) ref_notN (qe_ix (qe_var 0) (qe_var 5) (fun _ _ => rfl)) qe_non (nomark _)) (qe_one (qe_cmp (op_le) ref_B0 (qe_op op_add ref_I0 (qe_ix (qe_var 0) (qe_var 5) (fun _ _ => rfl)) (qe_var 3)) (qe_var 2) (nomark _)))))) qa_nil))) (qss_one (qs_ret qe_bl)) qss_nil)))
    (qss_one (qs_ret qe_bl)))) (fun ds l Qd Ed hl h => ?_)
  obtain ⟨ds, rws, k, rfl, rfl, hr, q⟩ := h
  walk_at "q"
  refine loopX (fun i σ l => ∃ x y z, ((rws.take i).any fun r => r.2.all (setB ds k r)) = false ∧ σ = [some (.loc 0), some (.d (rowsD rws)), some (.d (.int k)), x, y, z] ∧ l = [.lst (ds.map optD)]) ⟨_, _, _, rfl, rfl, rfl⟩ ?_ ?_
  · rintro i x σ l hx ⟨x, y, z, h0, rfl, rfl⟩
    rw [List.getElem?_map] at hx
    obtain ⟨r, hr1, rfl⟩ := Option.map_eq_some_iff.mp hx
    obtain ⟨hrl, hrm⟩ := hr r (List.mem_of_getElem? hr1)
    walk_at "q"
    refine lcI (fun j acc l => acc = ((r.2.take j).map (setB ds k r)).map .bl ∧ l = [.lst (ds.map optD)]) (by rw [natsD_len]; exact Nat.lt_of_le_of_lt hrl (by decide)) ⟨rfl, rfl⟩ ?_ ?_
    · rintro j x acc l hx ha ⟨rfl, rfl⟩
      unfold natsD at hx
      rw [List.getElem?_map] at hx
      obtain ⟨m, hm, rfl⟩ := Option.map_eq_some_iff.mp hx
      have hj := (List.getElem?_eq_some_iff.mp hm).1
      have hml := hrm m (List.mem_of_getElem? hm)
      have hat : atI (ds.map optD) ((m : Nat) : Int) = some (optD (ds.getD m none)) := by
        have e : ds[m]? = some (ds.getD m none) := by
          rw [List.getD_eq_getElem?_getD, List.getElem?_eq_getElem hml]
          rfl
        exact atI_m (f := optD) rfl e
      walk_at "q"
      refine ⟨_, hat, ?_⟩
      have e9 : (r.2.take (j + 1)).map (setB ds k r) = (r.2.take j).map (setB ds k r) ++ [setB ds k r m] := by
        rw [List.take_add_one, hm, Option.toList_some, List.map_append]
        rfl
      rw [natsD_len, e9, List.map_append]
      rw [List.length_map, List.length_map] at ha
      have e8 : setB ds k r m = (match ds.getD m none with | some b => decide (b + r.1 ≤ k) | none => false) := rfl
      rw [e8]
      cases hdm : ds.getD m none with
      | none =>
        simp only [optD, Bool.true_eq_false, if_false]
        exact ⟨⟨by rw [ha], by omega⟩, rfl⟩
      | some b =>
        simp only [optD, if_true]
        rw [show ds.getD m none = some b from hdm] at hat
        refine ⟨_, hat, ⟨by rw [ha], by omega⟩, ?_⟩
        have : decide ((b : Int) + (r.1 : Int) ≤ (k : Int)) = decide (b + r.1 ≤ k) := decide_eq_decide.mpr ⟨fun h => by omega, fun h => by omega⟩
        rw [this]
        rfl
    · rintro acc l ha ⟨rfl, rfl⟩
      rw [natsD_len, List.take_length]
      walk_at "q"
      refine ⟨_, rfl, ?_⟩
      have e9 : (List.map (setB ds k r) r.2).all id = r.2.all (setB ds k r) := by rw [List.all_map]; rfl
      rw [e9]
      split
      · rename_i h9
        have : (rws.any fun r => r.2.all (setB ds k r)) = true := List.any_eq_true.mpr ⟨r, List.mem_of_getElem? hr1, h9⟩
        rw [this] at q
        exact q
      · rename_i h9
        refine ⟨_, _, _, ?_, rfl⟩
        rw [List.take_add_one, hr1, Option.toList_some, List.any_append, h0]
        simpa using h9
  · rintro σ l ⟨x, y, z, h0, rfl, rfl⟩
    walk_at "q"
    rw [List.length_map, List.take_length] at h0
    rw [h0] at q
    exact q
structure Cs_law_layers (P : Program) (w : World) (K : PySem.W.Frag) (mg : Str → Option Value) (base : Heap) : Prop where
  law_things : CalQ P w K mg base 1 "_law_things" 2 fs_law_things
  law_split : CalQ P w K mg base 1 "_law_split" 2 fs_law_split
  law_settles : CalQ P w K mg base 1 "_law_settles" 3 fs_law_settles
theorem ok_law_layers {f : Addr} {fd : FuncData} (F : Fun K "_law_layers" "_law_layers" s_law_layers f fd) (B : Bt mg) (C : Cs_law_layers P w K mg base) : FnOk P w K mg base (L2N.CX P w) 2 f fd ["asks", "costs", "many"] (spQ K 3 fs_law_layers) := by
  have nd := sc_law_layers.nd
  refine fun_q (k := 1) F sc_law_layers 3 rfl (fun cdv A outer s H E hr tk => (qss_cons (qs_set (i := 3) nd rfl (by first | exact Or.inl rfl | exact Or.inr rfl) (qe_lc (f := .frz) (own := [("thing", 4)]) rfl nd (qi_range1 (pi_range1 (by rfl) B.range (qa_cons (qe_var 2) qa_nil))) (blkOk_by (N := N_law_layers) (sc := defScope s_law_layers) (by decide +kernel)) (fun _ _ _ _ _ => (qgv_name (i := 4) (by decide) nd rfl (by first | exact Or.inl rfl | exact Or.inr rfl))) (fun _ _ _ _ _ => qts_nil) (fun _ _ _ _ _ => (qe_callTy call_tuple_of ref_tuple (by rfl) B.tuple (by decide +kernel) (qa_cons (qe_lc (f := .frz) (own := [("values", 5), ("ledger", 6)]) rfl nd (qi_tup (pi_tup (qe_var 0))) (blkOk_by (N := N_law_layers) (sc := _) (by kernel_rfl)) (fun _ _ _ _ _ => (qgv_tup (n := 2) rfl (qgvs_cons (qgv_name (i := 5) (by decide) nd rfl (by first | exact Or.inl rfl | exact Or.inr rfl)) (qgvs_cons (qgv_name (i := 6) (by decide) nd rfl (by first | exact Or.inl rfl | exact Or.inr rfl)) qgvs_nil)))) (fun _ _ _ _ _ => qts_nil) (fun _ _ _ _ _ => (qe_ix (qe_var 5) (qe_var 4) (fun _ _ => rfl)))) qa_nil)))))
    (qss_cons (qs_set (i := 7) nd rfl (by first | exact Or.inl rfl | exact Or.inr rfl) (qe_lst (f := .cell) qa_nil))
    (qss_cons (qs_set (i := 8) nd rfl (by first | exact Or.inl rfl | exact Or.inr rfl) (qe_lst (f := .cell) qa_nil))
    (qss_cons (qs_set (i := 9) nd rfl (by first | exact Or.inl rfl | exact Or.inr rfl) (qe_lst (f := .cell) qa_nil))
    (qss_cons (qs_for (passes_of rfl) rfl (qi_range1 (pi_range1 (by rfl) B.range (qa_cons (qe_op op_shl ref_II qe_int (qe_var 2)) qa_nil))) (qg_name (i := 10) nd rfl (by first | exact Or.inl rfl | exact Or.inr rfl)) (qss_cut (qss_cons (qs_set (i := 11) nd rfl (by first | exact Or.inl rfl | exact Or.inr rfl) (qe_call C.law_things hr (by decide) tk (by rfl) (qa_cons (qe_var 10) (qa_cons (qe_var 2) qa_nil))))
    (qss_cons (qs_expr (qe_bm PySem.F.slot_list_append PySem.F.type_list_append mt_append ref_append (qe_var 7) (qa_cons (qe_ifE (qt_cmp (op_lt) ref_B0 (qe_callB call_len_seq ref_len (by rfl) B.len (by decide +kernel) (qa_cons (qe_var 11) qa_nil)) qe_int (nomark _)) qe_int qe_non) qa_nil)))
    (qss_cons (qs_set (i := 12) nd rfl (by first | exact Or.inl rfl | exact Or.inr rfl) (qe_lst (f := .cell) qa_nil))
    (qss_cons (qs_for (passes_of rfl) rfl (qi_range1 (pi_range1 (by rfl) B.range (qa_cons (qe_callB call_len_seq ref_len (by rfl) B.len (by decide +kernel) (qa_cons (qe_var 0) qa_nil)) qa_nil))) (qg_name (i := 13) nd rfl (by first | exact Or.inl rfl | exact Or.inr rfl)) (qss_cons (qs_set (i := 14) nd rfl (by first | exact Or.inl rfl | exact Or.inr rfl) (qe_call C.law_split hr (by decide) tk (by rfl) (qa_cons (qe_ix (qe_ix (qe_var 0) (qe_var 13) (fun _ _ => rfl)) qe_int (fun _ _ => rfl)) (qa_cons (qe_var 11) qa_nil))))
    (qss_one (qs_if (qt_cmp (op_gt) ref_B0 (qe_callB call_len_seq ref_len (by rfl) B.len (by decide +kernel) (qa_cons (qe_var 14) qa_nil)) qe_int (nomark _)) (qss_one (qs_expr (qe_bm PySem.F.slot_list_append PySem.F.type_list_append mt_append ref_append (qe_var 12) (qa_cons (qe_tup (qa_cons (qe_ix (qe_var 1) (qe_var 13) (fun _ _ => rfl)) (qa_cons (qe_var 14) qa_nil))) qa_nil)))) qss_nil))))
    (qss_cons (qs_expr (qe_bm PySem.F.slot_list_append PySem.F.type_list_append mt_append ref_append (qe_var 8) (qa_cons (qe_ice (qe_var 12)) qa_nil)))
    (qss_cons (qs_set (i := 15) nd rfl (by first | exact Or.inl rfl | exact Or.inr rfl) (qe_lc (f := .frz) (own := [("thing", 4)]) rfl nd (qi_lst (qe_var 11)) (blkOk_by (N := N_law_layers) (sc := defScope s_law_layers) (by decide +kernel)) (fun _ _ _ _ _ => (qgv_name (i := 4) (by decide) nd rfl (by first | exact Or.inl rfl | exact Or.inr rfl))) (fun _ _ _ _ _ => qts_nil) (fun _ _ _ _ _ => (qe_ix (qe_var 3) (qe_var 4) (fun _ _ => rfl)))))
    (qss_one (qs_if (QW.qt (qw_and (qt_cmp (op_gt) ref_B0 (qe_callB call_len_seq ref_len (by rfl) B.len (by decide +kernel) (qa_cons (qe_var 11) qa_nil)) qe_int (nomark _)) (qw_and1 (qt_val (qe_callB (cr_all rfl) ref_all (by rfl) B.all (by decide +kernel) (qa_cons (qe_lc (f := .frz) (own := [("mark", 16)]) rfl nd (qi_lst (qe_var 15)) (blkOk_by (N := N_law_layers) (sc := defScope s_law_layers) (by decide +kernel)) (fun _ _ _ _ _ => (qgv_name (i := 16) (by decide) nd rfl (by first | exact Or.inl rfl | exact Or.inr rfl))) (fun _ _ _ _ _ => qts_nil) (fun _ _ _ _ _ => (qe_cmp (op_eqD hr.units) ref_eq (qe_bm PySem.F.slot_list_count PySem.F.type_list_count (mt_countD hr.u65) ref_count (qe_var 15) (qa_cons (qe_var 16) qa_nil)) qe_int (nomark _)))) qa_nil)))))) (qss_one (qs_expr (qe_bm PySem.F.slot_list_append PySem.F.type_list_append mt_append ref_append (qe_var 9) (qa_cons (qe_var 10) qa_nil)))) qss_nil))))))))))
    (qss_ice (i := 9) (qss_cons (qs_for (passes_of rfl) rfl (qi_range2 (pi_range2 (by rfl) B.range (qa_cons qe_int (qa_cons (qe_op op_add ref_I0 (qe_op op_mulW ref_II (qe_var 2) (qe_callB (cr_max rfl) ref_max (by rfl) B.max (by decide +kernel) (qa_cons (qe_op op_cat (ref_cat (f := .frz)) (qe_lst (f := .frz) (qa_cons qe_int qa_nil)) (qe_var 1)) qa_nil))) qe_int) qa_nil)))) (qg_name (i := 17) nd rfl (by first | exact Or.inl rfl | exact Or.inr rfl)) (qss_cons (qs_for (passes_of rfl) rfl (qi_lst (qe_var 9)) (qg_name (i := 10) nd rfl (by first | exact Or.inl rfl | exact Or.inr rfl)) (qss_one (qs_if (qt_val (qe_call C.law_settles hr (by decide) tk (by rfl) (qa_cons (qe_var 7) (qa_cons (qe_ix (qe_var 8) (qe_var 10) (fun _ _ => rfl)) (qa_cons (qe_var 17) qa_nil))))) (qss_one (qs_asg (qe_var 17) (qg_subL (W := W0) (qe_var 7) (qe_var 10)))) qss_nil)))
    (qss_one (qs_setLc (f := .frz) (i := 9) rfl nd rfl rfl (sw_true rfl rfl rfl (by decide +kernel)) (own := [("lot", 10)]) (qi_lst (qe_var 9)) (blkOk_by (N := N_law_layers) (sc := defScope s_law_layers) (by decide +kernel)) (fun _ _ _ _ _ => (qgv_name (i := 10) (by decide) nd rfl (by first | exact Or.inl rfl | exact Or.inr rfl))) (fun _ _ _ _ _ => (qts_one (qt_cmp (op_isN) ref_isN (qe_ix (qe_var 7) (qe_var 10) (fun _ _ => rfl)) qe_non (nomark _)))) (fun _ _ _ _ _ => (qe_var 10))))))
    (qss_one (qs_ret (qe_callTy call_tuple_of ref_tuple (by rfl) B.tuple (by decide +kernel) (qa_cons (qe_var 7) qa_nil)))))))))))) (fun ds l Qd Ed hl h => ?_)
  obtain ⟨As, cs, n, rfl, rfl, hc, hA, hn8, hn, hcs, q⟩ := h
  walk_at "q"
  refine ⟨by omega, by omega, ?_⟩
  refine lcI (fun i acc l => acc = (List.range i).map (fun t => .tup (natsD (markN As t))) ∧ l = []) (by rw [rangeD_len]; exact Nat.lt_of_le_of_lt (show _ ≤ 8 by omega) (by decide)) ⟨rfl, rfl⟩ ?_ ?_
  · rintro i x acc l hx ha ⟨rfl, rfl⟩
    obtain ⟨hi, rfl⟩ := rangeD_get hx
    walk_at "q"
    refine lcI (fun j acc l => acc = natsD ((As.take j).map fun a => val a.1 i) ∧ l = []) (by rw [List.length_map]; exact Nat.lt_of_le_of_lt hA (by decide)) ⟨rfl, rfl⟩ ?_ ?_
    · rintro j x acc l hx ha ⟨rfl, rfl⟩
      rw [List.getElem?_map] at hx
      obtain ⟨a, ha1, rfl⟩ := Option.map_eq_some_iff.mp hx
      have hj := (List.getElem?_eq_some_iff.mp ha1).1
      walk_at "q"
      refine ⟨_, natsD_at (by rw [hn a (List.mem_of_getElem? ha1)]; omega), ⟨by rw [ha], by omega⟩, ?_⟩
      rw [List.take_add_one, ha1, Option.toList_some, List.map_append, natsD_app]
      simp [natsD]
    · rintro acc l ha2 ⟨rfl, rfl⟩
      rw [List.length_map, List.take_length]
      walk_at "q"
      rw [List.length_map, List.length_range] at ha
      refine ⟨⟨by simp, by omega⟩, ?_⟩
      rw [List.range_succ, List.map_append]
      rfl
  · rintro acc l ha ⟨rfl, rfl⟩
    rw [rangeD_len, Int.toNat_natCast]
    walk_at "q"
    have e2 : (1 : Int) * 2 ^ (n : Int).toNat = ((2 ^ n : Nat) : Int) := by
      rw [Int.one_mul, Int.toNat_natCast, Int.natCast_pow]
      rfl
    have hle : 2 ^ n ≤ 2 ^ 8 := Nat.pow_le_pow_right (by decide) hn8
    have hle' : 2 ^ n ≤ 256 := hle
    have hcp : CPow 1 (n : Int) := ⟨by omega, by omega, by decide⟩
    rw [e2, Int.toNat_natCast]
    refine ⟨hcp, Int.le_trans (by decide) (Int.natCast_nonneg _), Int.lt_of_le_of_lt (Int.ofNat_le.mpr hle') (by decide), ?_⟩
    refine loopR (fun i σ l => ∃ (sp : List (List (Nat × List Nat))) (x4 x5 x6 x10 x11 x12 x13 x14 x15 x16 x17 : Option QL.P), sp.length = i ∧ (∀ j, j < i → RowsP (mkA As cs) j (sp.getD j [])) ∧ σ = [some (.d (asksD As)), some (.d (.lst (natsD cs))), some (.d (.int n)), some (.d (.lst ((List.range n).map (fun t => .tup (natsD (markN As t)))))), x4, x5, x6, some (.loc 0), some (.loc 1), some (.loc 2), x10, x11, x12, x13, x14, x15, x16, x17] ∧
      l = [.lst ((told0 i).map optD), .lst (sp.map rowsD), .lst (natsD ((List.range i).filter (wantB As)))]) ⟨[], _, _, _, _, _, _, _, _, _, _, _, rfl, fun j hj => absurd hj (by omega), rfl, rfl⟩ ?_ ?_
    · rintro i σ l hi ⟨sp, x4, x5, x6, x10, x11, x12, x13, x14, x15, x16, x17, hsp, hrw, rfl, rfl⟩
      have hi8 : i < 2 ^ 8 := by omega
      have hsz : ∀ k : Nat, k ≤ 300 → k < sizeLine := fun k hk => Nat.lt_of_le_of_lt hk (by decide)
      walk_at "q"
      refine ⟨i, n, rfl, rfl, hn8, hi, ?_⟩
      walk_at "q"
      have ma : ((natsD (bits 8 i)).length : Int) = ((bits 8 i).length : Int) := by rw [natsD_len]
      have tl0 : (told0 i).length = i := by simp [told0]
      have hasz : (-4611686018427387904 : Int) ≤ (List.length As : Int) ∧ (List.length As : Int) < 4611686018427387904 := ⟨by omega, by omega⟩
      have spl : (sp.map rowsD).length ≤ 300 := by rw [List.length_map]; omega
      have tn : told0 (i + 1) = told0 i ++ [if (bits 8 i).length < 2 then some 0 else none] := by unfold told0; rw [List.range_succ, List.map_append]; rfl
      rw [natsD_len]
      apply if_to
      · intro h2
        have h2' : (bits 8 i).length < 2 := by omega
        rw [show (told0 i).map optD ++ [D.int 0] = (told0 (i + 1)).map optD by rw [tn, if_pos h2', List.map_append]; rfl]
      · intro h2
        have h2' : ¬ (bits 8 i).length < 2 := by omega
        rw [show (told0 i).map optD ++ [D.non] = (told0 (i + 1)).map optD by rw [tn, if_neg h2', List.map_append]; rfl]
      rw [tl0]
      refine ⟨hsz _ (by omega), hasz.1, hasz.2, ?_⟩
      refine loopR (fun p σ l => ∃ (rws : List (Nat × List Nat)) (x13 x14 : Option QL.P), RowsP ((mkA As cs).take p) i rws ∧ σ = [some (.d (asksD As)), some (.d (.lst (natsD cs))), some (.d (.int n)), some (.d (.lst ((List.range n).map (fun t => .tup (natsD (markN As t)))))), x4, x5, x6, some (.loc 0), some (.loc 1), some (.loc 2), some (.d (.int i)), some (.d (.lst (natsD (bits 8 i)))), some (.loc 3), x13, x14, x15, x16, x17] ∧
        l = [.lst ((told0 (i + 1)).map optD), .lst (sp.map rowsD), .lst (natsD ((List.range i).filter (wantB As))), .lst (rws.map rowD)]) ⟨[], _, _, RowsP.nil, rfl, rfl⟩ ?_ ?_
      · rintro p σ l hp ⟨rws, y13, y14, hR, rfl, rfl⟩
        have hp : p < As.length := by omega
        have hcs1 : p < cs.length := by omega
        have haM : As[p] ∈ As := List.getElem_mem hp
        have hak : (mkA As cs)[p]? = some (As[p].1, cs[p]) := by
          unfold mkA
          rw [List.getElem?_zip_eq_some]
          exact ⟨by rw [List.getElem?_map, List.getElem?_eq_getElem hp]; rfl, List.getElem?_eq_getElem hcs1⟩
        have etk : (mkA As cs).take (p + 1) = (mkA As cs).take p ++ [(As[p].1, cs[p])] := by rw [List.take_add_one, hak]; rfl
        have hrl : rws.length ≤ 100 := Nat.le_trans hR.1 (Nat.le_trans (List.length_take_le _ _) (by omega))
        have hat : atI (natsD cs) ((p : Nat) : Int) = some (.int (cs[p] : Nat)) := atI_m (f := fun n : Nat => D.int (n : Int)) rfl (get_at hcs1)
        walk_at "q"
        refine ⟨_, atI_m (f := fun a : List Nat × List Nat => D.tup [.tup (natsD a.1), .tup (natsD a.2)]) (k := ((p : Nat) : Int)) rfl (get_at hp), _, atI_cons0, ?_⟩
        refine ⟨As[p].1, bits 8 i, rfl, rfl, bits_len _ _, fun t ht => ⟨by rw [hn _ haM]; exact bits_lt hi ht, List.mem_range.mp (List.mem_filter.mp ht).1⟩, fun ms hml hmm => ?_⟩
        walk_at "q"
        rw [natsD_len]
        have ec : (cm 8 (As[p].1, cs[p]) i).length = (clsL As[p].1 (bits 8 i)).length := by simp [cm]
        split
        · rename_i h2
          refine ⟨_, hat, hsz _ (by omega), rws ++ [(cs[p], ms)], _, _, ?_, rfl, ?_⟩
          · rw [etk]
            exact hR.add (a := (As[p].1, cs[p])) (by rw [ec]; omega) (by rw [ec]; exact hml) hmm
          · rw [List.map_append]
            rfl
        · rename_i h2
          refine ⟨rws, _, _, ?_, rfl, rfl⟩
          rw [etk]
          exact hR.skip (by rw [ec]; omega)
      · rintro σ l ⟨rws, y13, y14, hR, rfl, rfl⟩
        have e : (mkA As cs).take As.length = mkA As cs := List.take_of_length_le (by simp [mkA, hc])
        simp only [Int.toNat_natCast, e] at hR
        walk_at "q"
        have hbl : (bits 8 i).length ≤ 8 := bits_len _ _
        have hbn : ∀ t ∈ bits 8 i, t < n := fun t ht => bits_lt hi ht
        refine ⟨hsz _ (by omega), ?_⟩
        refine lcI (fun j acc l => acc = ((bits 8 i).take j).map (fun t => .tup (natsD (markN As t))) ∧ l = [.lst ((told0 (i + 1)).map optD), .lst (sp.map rowsD ++ [rowsD rws]), .lst (natsD ((List.range i).filter (wantB As))), .frz (rws.map rowD)]) (by rw [natsD_len]; exact hsz _ (by omega)) ⟨rfl, rfl⟩ ?_ ?_
        · rintro j x acc l hx ha ⟨rfl, rfl⟩
          unfold natsD at hx
          rw [List.getElem?_map] at hx
          obtain ⟨t, ht, rfl⟩ := Option.map_eq_some_iff.mp hx
          have hj := (List.getElem?_eq_some_iff.mp ht).1
          have htn := hbn t (List.mem_of_getElem? ht)
          have hat : atI ((List.range n).map fun t => D.tup (natsD (markN As t))) ((t : Nat) : Int) = some (.tup (natsD (markN As t))) := atI_m (f := fun t => D.tup (natsD (markN As t))) rfl (by rw [List.getElem?_range htn])
          walk_at "q"
          refine ⟨_, hat, ⟨by rw [List.length_map] at ha; rw [ha], by rw [natsD_len]; omega⟩, ?_⟩
          rw [List.take_add_one, ht, Option.toList_some, List.map_append]
          rfl
        · rintro acc l ha ⟨rfl, rfl⟩
          rw [natsD_len, List.take_length]
          walk_at "q"
          rw [natsD_len]
          have hrw2 : ∀ j, j < i + 1 → RowsP (mkA As cs) j ((sp ++ [rws]).getD j []) := fun j hj => by
            by_cases e : j < i
            · rw [List.getD_eq_getElem?_getD, List.getElem?_append_left (by omega), ← List.getD_eq_getElem?_getD]
              exact hrw j e
            · have : j = i := by omega
              subst this
              rw [List.getD_eq_getElem?_getD, List.getElem?_append_right (by omega), hsp, Nat.sub_self]
              exact hR
          have esp : sp.map rowsD ++ [rowsD rws] = (sp ++ [rws]).map rowsD := by rw [List.map_append]; rfl
          have ef0 : ∀ b, wantB As i = b → (List.range (i + 1)).filter (wantB As) = (List.range i).filter (wantB As) ++ (if b = true then [i] else []) := fun b hb => by
            rw [List.range_succ, List.filter_append]
            cases b <;> simp [hb]
          split
          · rename_i h2
            have hw : wantB As i = partB As i := by
              unfold wantB
              rw [decide_eq_true (by omega), Bool.true_and]
            refine lcI (fun j acc l => acc = (((bits 8 i).take j).map fun t => decide (((bits 8 i).countP fun u => decide (markN As u = markN As t)) = 1)).map .bl ∧ l = [.lst ((told0 (i + 1)).map optD), .lst (sp.map rowsD ++ [rowsD rws]), .lst (natsD ((List.range i).filter (wantB As))), .frz (rws.map rowD)]) (by rw [List.length_map]; exact hsz _ (by omega)) ⟨rfl, rfl⟩ ?_ ?_
            · rintro j x acc l hx ha ⟨rfl, rfl⟩
              rw [List.getElem?_map] at hx
              obtain ⟨t, ht, rfl⟩ := Option.map_eq_some_iff.mp hx
              have hj := (List.getElem?_eq_some_iff.mp ht).1
              have dk : ∀ (n : Nat) (t : Nat), dOk (n + 2) (.tup (natsD (markN As t))) := fun n t => dOk_tup.mpr fun x hx => by
                obtain ⟨m, _, rfl⟩ := List.mem_map.mp hx
                exact dOk_int.mpr trivial
              walk_at "q"
              refine ⟨dOk_lst.mpr fun x hx => by
                obtain ⟨m, _, rfl⟩ := List.mem_map.mp hx
                exact dk 57 m, dk 58 t, ?_⟩
              rw [cnt_eq]
              refine ⟨⟨by rw [List.length_map, List.length_map] at ha; rw [ha], by omega⟩, ?_⟩
              rw [List.take_add_one, ht, Option.toList_some, List.map_append, List.map_append]
              congr 1
              simp only [List.map_cons, List.map_nil, List.cons.injEq, D.bl.injEq, and_true]
              exact decide_eq_decide.mpr ⟨fun h => by omega, fun h => by omega⟩
            · rintro acc l ha ⟨rfl, rfl⟩
              rw [List.length_map, List.take_length]
              walk_at "q"
              refine ⟨_, rfl, ?_⟩
              have ea : (((bits 8 i).map fun t => decide (((bits 8 i).countP fun u => decide (markN As u = markN As t)) = 1)).all id) = wantB As i := by
                rw [hw, ← part_cnt, List.all_map]
                rfl
              rw [ea]
              cases hb : wantB As i with
              | true =>
                simp only [if_true]
                refine ⟨by rw [natsD_len]; exact Nat.lt_of_le_of_lt (List.length_filter_le _ _) (by rw [List.length_range]; exact hsz _ (by omega)), sp ++ [rws], _, _, _, _, _, _, _, _, _, _, _, by simp [hsp], hrw2, rfl, ?_⟩
                rw [esp, ef0 true hb, natsD_app]
                rfl
              | false =>
                simp only [Bool.false_eq_true, if_false]
                refine ⟨sp ++ [rws], _, _, _, _, _, _, _, _, _, _, _, by simp [hsp], hrw2, rfl, ?_⟩
                rw [esp, ef0 false hb, natsD_app]
                simp [natsD]
          · rename_i h2
            have hb : wantB As i = false := by
              unfold wantB
              rw [decide_eq_false (by omega), Bool.false_and]
            refine ⟨sp ++ [rws], _, _, _, _, _, _, _, _, _, _, _, by simp [hsp], hrw2, rfl, ?_⟩
            rw [esp, ef0 false hb, natsD_app]
            simp [natsD]
    · rintro σ l ⟨sp, x4, x5, x6, x10, x11, x12, x13, x14, x15, x16, x17, hsp, hrw, rfl, rfl⟩
      walk_at "q"
      have hsz : ∀ k : Nat, k ≤ 300 → k < sizeLine := fun k hk => Nat.lt_of_le_of_lt hk (by decide)
      have hcl : (natsD cs).length ≤ 100 := by rw [natsD_len]; omega
      refine ⟨Nat.le_of_lt (hsz _ (by omega)), 0 :: cs.map (fun c : Nat => (c : Int)), by simp [natsD], by simp, fun mx hm hy => ?_⟩
      obtain ⟨C, rfl, hC100⟩ : ∃ C : Nat, mx = (C : Int) ∧ C ≤ 100 := by
        rcases List.mem_cons.mp hm with rfl | hm
        · exact ⟨0, rfl, by omega⟩
        · obtain ⟨c, hc1, rfl⟩ := List.mem_map.mp hm
          exact ⟨c, rfl, (hcs c hc1).2⟩
      have hCa : ∀ a ∈ mkA As cs, a.2 ≤ C := mkA_cost fun c hc1 => by
        have := hy _ (List.mem_cons_of_mem _ (List.mem_map.mpr ⟨c, hc1, rfl⟩))
        omega
      have hc1 : ∀ a ∈ mkA As cs, 1 ≤ a.2 := fun a ha => (hcs _ (List.of_mem_zip ha).2).1
      have hnC : n * C ≤ 800 := Nat.mul_le_mul (show n ≤ 8 from hn8) hC100
      have eM : ((n : Int) * (C : Int)) = ((n * C : Nat) : Int) := by rw [Int.natCast_mul]
      have hcw : CMulW (n : Int) (C : Int) := by
        unfold CMulW
        have l1 := Nat.log2_le_self n
        have l2 := Nat.log2_le_self C
        simp only [Int.natAbs_natCast]
        omega
      refine ⟨hcw, by rw [eM]; omega, ?_⟩
      rw [eM, show ((n * C : Nat) : Int) + 1 - 1 = ((n * C : Nat) : Int) by omega, Int.toNat_natCast]
      refine loopR (fun k σ l => ∃ (ws : List Nat) (c : Cell) (y10 y11 y12 y13 y14 y15 y16 y17 : Option QL.P), ws.length ≤ 256 ∧ (∀ j, j ∈ ws ↔ j < 2 ^ n ∧ wantB As j = true ∧ upto (dep 8 (mkA As cs)) k j = none) ∧
        σ = [some (.d (asksD As)), some (.d (.lst (natsD cs))), some (.d (.int n)), some (.d (.lst ((List.range n).map (fun t => .tup (natsD (markN As t)))))), x4, x5, x6, some (.loc 0), some (.loc 1), some (.d (.lst (natsD ws))), y10, y11, y12, y13, y14, y15, y16, y17] ∧
        l = [.lst (((List.range (2 ^ n)).map (upto (dep 8 (mkA As cs)) k)).map optD), .lst (sp.map rowsD), c]) ?_ ?_ ?_
      · refine ⟨(List.range (2 ^ n)).filter (wantB As), .frz (natsD ((List.range (2 ^ n)).filter (wantB As))), x10, x11, x12, x13, x14, x15, x16, x17, ?_, fun j => ?_, rfl, ?_⟩
        · exact Nat.le_trans (List.length_filter_le _ _) (by rw [List.length_range]; exact hle')
        · rw [List.mem_filter, List.mem_range]
          constructor
          · rintro ⟨h1, h2⟩
            refine ⟨h1, h2, ?_⟩
            rw [upto_zero hc1 (by omega), if_neg]
            have := (want_iff hc).mp h2
            omega
          · rintro ⟨h1, h2, _⟩
            exact ⟨h1, h2⟩
        · rw [show told0 (2 ^ n) = (List.range (2 ^ n)).map (upto (dep 8 (mkA As cs)) 0) from List.map_congr_left fun m hm => (upto_zero hc1 (Nat.lt_of_lt_of_le (List.mem_range.mp hm) hle)).symm]
      · rintro k σ l hk ⟨ws, c, y10, y11, y12, y13, y14, y15, y16, y17, hwl, hws, rfl, rfl⟩
        rw [show (1 : Int) + (k : Int) = ((k + 1 : Nat) : Int) by omega]
        walk_at "q"
        refine loopX (fun j σ l => ∃ (y10 : Option QL.P), σ = [some (.d (asksD As)), some (.d (.lst (natsD cs))), some (.d (.int n)), some (.d (.lst ((List.range n).map (fun t => .tup (natsD (markN As t)))))), x4, x5, x6, some (.loc 0), some (.loc 1), some (.d (.lst (natsD ws))), y10, y11, y12, y13, y14, y15, y16, some (.d (.int ((k + 1 : Nat) : Int)))] ∧
          l = [.lst (((List.range (2 ^ n)).map (mixU (dep 8 (mkA As cs)) k (ws.take j))).map optD), .lst (sp.map rowsD), c]) ⟨y10, rfl, by
            rw [show (List.range (2 ^ n)).map (mixU (dep 8 (mkA As cs)) k (ws.take 0)) = (List.range (2 ^ n)).map (upto (dep 8 (mkA As cs)) k) from List.map_congr_left fun m hm => if_neg (by simp)]⟩ ?_ ?_
        · rintro j x σ l hx ⟨z10, rfl, rfl⟩
          unfold natsD at hx
          rw [List.getElem?_map] at hx
          obtain ⟨lot, hlot, rfl⟩ := Option.map_eq_some_iff.mp hx
          obtain ⟨hl1, hl2, hl3⟩ := (hws lot).mp (List.mem_of_getElem? hlot)
          obtain ⟨hl4, hl5⟩ := (want_iff hc).mp hl2
          have hl8 : lot < 2 ^ 8 := by omega
          have hat : atI (sp.map rowsD) ((lot : Nat) : Int) = some (rowsD (sp.getD lot [])) := by
            have e : sp[lot]? = some (sp.getD lot []) := by
              rw [List.getD_eq_getElem?_getD, List.getElem?_eq_getElem (by omega)]
              rfl
            exact atI_m (f := rowsD) rfl e
          have hR := hrw lot hl1
          walk_at "q"
          refine ⟨_, hat, ?_⟩
          refine ⟨(List.range (2 ^ n)).map (mixU (dep 8 (mkA As cs)) k (ws.take j)), sp.getD lot [], k + 1, rfl, rfl, fun r hr => ?_, ?_⟩
          · obtain ⟨a, ha, g2, _, g3, g4⟩ := hR.2.1 r hr
            refine ⟨?_, fun m hm => ?_⟩
            · rw [g3]
              exact Nat.le_trans (by simp [cm]; exact cls_len _ _) (Nat.le_trans (bits_len 8 lot) (by omega))
            · rw [List.length_map, List.length_range]
              exact Nat.lt_trans (cm_less hl8 g2 ((g4 m).mp hm)) hl1
          · have gd : ∀ m, m < 2 ^ n → ((List.range (2 ^ n)).map (mixU (dep 8 (mkA As cs)) k (ws.take j))).getD m none = mixU (dep 8 (mkA As cs)) k (ws.take j) m := fun m hm => by
              rw [List.getD_eq_getElem?_getD, List.getElem?_map, List.getElem?_range hm]
              rfl
            have hset := (rows_settle (told := (List.range (2 ^ n)).map (mixU (dep 8 (mkA As cs)) k (ws.take j))) (K := k + 1) hR).trans (settles_iff (told := fun m => ((List.range (2 ^ n)).map (mixU (dep 8 (mkA As cs)) k (ws.take j))).getD m none) hc1 (fun m hm => by
              rw [gd m (by omega)]
              unfold mixU
              by_cases h : m ∈ ws.take j
              · rw [if_pos h]; exact .inr rfl
              · rw [if_neg h]; exact .inl rfl) hl8 (by omega))
            have mem1 : ∀ m, m ∈ ws.take (j + 1) ↔ m ∈ ws.take j ∨ m = lot := fun m => by
              rw [List.take_add_one, hlot, Option.toList_some, List.mem_append, List.mem_singleton]
            walk_at "q"
            split
            · rename_i h9
              have h9 := hset.mp h9
              have hn := settle_new h9 hl3
              refine ⟨lot, ixN_n rfl (by rw [List.length_range]; exact hl1), _, rfl, ?_⟩
              rw [List.map_map, List.map_map, show (D.int ((k + 1 : Nat) : Int)) = optD (some (k + 1)) from rfl]
              rw [set_rng (f := optD ∘ mixU (dep 8 (mkA As cs)) k (ws.take j)) (g := optD ∘ mixU (dep 8 (mkA As cs)) k (ws.take (j + 1))) (fun m _ e => ?_) fun _ => ?_]
              · have : m ∈ ws.take (j + 1) ↔ m ∈ ws.take j := by rw [mem1]; simp [e]
                show optD (mixU _ k (ws.take j) m) = optD (mixU _ k (ws.take (j + 1)) m)
                unfold mixU
                simp only [this]
              · show optD (mixU _ k (ws.take (j + 1)) lot) = optD (some (k + 1))
                unfold mixU
                rw [if_pos ((mem1 lot).mpr (.inr rfl)), hn]
            · rename_i h9
              have h9 : ¬ le _ _ := fun z => h9 (hset.mpr z)
              have hn := upto_none.mpr h9
              refine ⟨_, rfl, ?_⟩
              rw [show (List.range (2 ^ n)).map (mixU (dep 8 (mkA As cs)) k (ws.take j)) = (List.range (2 ^ n)).map (mixU (dep 8 (mkA As cs)) k (ws.take (j + 1))) from List.map_congr_left fun m hm => ?_]
              unfold mixU
              by_cases e : m = lot
              · subst e
                rw [hn, hl3]
                simp
              · have : m ∈ ws.take (j + 1) ↔ m ∈ ws.take j := by rw [mem1]; simp [e]
                simp only [this]
        · rintro σ l ⟨z10, rfl, rfl⟩
          rw [natsD_len, List.take_length]
          have hmix : (List.range (2 ^ n)).map (mixU (dep 8 (mkA As cs)) k ws) = (List.range (2 ^ n)).map (upto (dep 8 (mkA As cs)) (k + 1)) := List.map_congr_left fun m hm => by
            have hm := List.mem_range.mp hm
            have hm8 : m < 2 ^ 8 := by omega
            by_cases hin : m ∈ ws
            · exact if_pos hin
            · unfold mixU
              rw [if_neg hin]
              exact upto_stay hm8 (fun hp => Classical.byContradiction fun hu => hin ((hws m).mpr ⟨hm, (want_iff hc).mpr hp, by
                cases e : upto (dep 8 (mkA As cs)) k m with
                | none => rfl
                | some b => exact absurd (by rw [e]; simp) hu⟩))
          rw [hmix]
          walk_at "q"
          refine lcT (fun i acc l => acc = natsD ((ws.take i).filter fun m => (upto (dep 8 (mkA As cs)) (k + 1) m).isNone) ∧ l = [.lst (((List.range (2 ^ n)).map (upto (dep 8 (mkA As cs)) (k + 1))).map optD), .lst (sp.map rowsD), c]) (by rw [natsD_len]; exact hsz _ (by omega)) ⟨rfl, rfl⟩ ?_ ?_
          · rintro i x acc l hx ha ⟨rfl, rfl⟩
            unfold natsD at hx
            rw [List.getElem?_map] at hx
            obtain ⟨m, hm, rfl⟩ := Option.map_eq_some_iff.mp hx
            have hi := (List.getElem?_eq_some_iff.mp hm).1
            obtain ⟨hm1, _, _⟩ := (hws m).mp (List.mem_of_getElem? hm)
            have hat : atI (((List.range (2 ^ n)).map (upto (dep 8 (mkA As cs)) (k + 1))).map optD) ((m : Nat) : Int) = some (optD (upto (dep 8 (mkA As cs)) (k + 1) m)) := atI_m (f := optD) rfl (by rw [List.getElem?_map, List.getElem?_range hm1]; rfl)
            have ef : (ws.take (i + 1)).filter (fun m => (upto (dep 8 (mkA As cs)) (k + 1) m).isNone) = (ws.take i).filter (fun m => (upto (dep 8 (mkA As cs)) (k + 1) m).isNone) ++ (if (upto (dep 8 (mkA As cs)) (k + 1) m).isNone = true then [m] else []) := by
              rw [List.take_add_one, hm, Option.toList_some, List.filter_append]
              cases hb : (upto (dep 8 (mkA As cs)) (k + 1) m).isNone <;> simp [hb]
            walk_at "q"
            refine ⟨_, hat, ?_⟩
            have en : QL.P.d (optD (upto (dep 8 (mkA As cs)) (k + 1) m)) = QL.P.d .non ↔ (upto (dep 8 (mkA As cs)) (k + 1) m).isNone = true := by
              cases upto (dep 8 (mkA As cs)) (k + 1) m <;> simp [optD]
            rw [natsD_len] at ha
            split
            · rename_i h9
              have h9 := en.mp h9
              refine ⟨⟨by rw [List.length_append, natsD_len]; simp only [List.length_cons, List.length_nil]; omega, by rw [natsD_len]; omega⟩, ?_, rfl⟩
              rw [ef, if_pos h9, natsD_app]
              rfl
            · rename_i h9
              have h9 : ¬ (upto (dep 8 (mkA As cs)) (k + 1) m).isNone = true := fun z => h9 (en.mpr z)
              refine ⟨⟨by rw [natsD_len]; omega, by rw [natsD_len]; omega⟩, ?_, rfl⟩
              rw [ef, if_neg h9, List.append_nil]
          · rintro acc l ha ⟨rfl, rfl⟩
            rw [natsD_len, List.take_length]
            walk_at "q"
            refine ⟨_, c, _, _, _, _, _, _, _, _, Nat.le_trans (List.length_filter_le _ _) hwl, fun m => ?_, rfl, rfl⟩
            rw [List.mem_filter, hws, Option.isNone_iff_eq_none]
            exact ⟨fun h => ⟨h.1.1, h.1.2.1, h.2⟩, fun h => ⟨⟨h.1, h.2.1, upto_mono h.2.2⟩, h.2.2⟩⟩
      · rintro σ l ⟨ws, c, y10, y11, y12, y13, y14, y15, y16, y17, hwl, hws, rfl, rfl⟩
        walk_at "q"
        rw [show (List.range (2 ^ n)).map (upto (dep 8 (mkA As cs)) (n * C)) = depL 8 (mkA As cs) (2 ^ n) by
          rw [depL_map]
          refine List.map_congr_left fun m hm => upto_all hCa (Nat.lt_of_lt_of_le (List.mem_range.mp hm) hle) ?_
          refine Nat.mul_le_mul_right _ ?_
          rw [bits_ext hn8 (List.mem_range.mp hm)]
          have : (bits n m).length ≤ n := by
            unfold bits
            exact Nat.le_trans (List.length_filter_le _ _) (by simp)
          omega]
        exact q
structure Cs_law_right (P : Program) (w : World) (K : PySem.W.Frag) (mg : Str → Option Value) (base : Heap) : Prop where
  judge_depths : CalQ P w K mg base 5 "judge_depths" 3 fs_judge_depths
  judge_row_depths : CalQ P w K mg base 5 "judge_row_depths" 3 fs_judge_row_depths
  law_truth : CalQ P w K mg base 1 "_law_truth" 1 fs_law_truth
  law_layers : CalQ P w K mg base 2 "_law_layers" 3 fs_law_layers
  law_told : CalQ P w K mg base 6 "_law_told" 3 fs_law_told
theorem ok_law_right {f : Addr} {fd : FuncData} (F : Fun K "_law_right" "_law_right" s_law_right f fd) (B : Bt mg) (C : Cs_law_right P w K mg base) : FnOk P w K mg base (L2N.CX P w) 7 f fd ["rows", "asks", "many"] (spQ K 3 fs_law_right) := by
  have nd := sc_law_right.nd
  refine fun_q (k := 6) F sc_law_right 3 rfl (fun cdv A outer s H E hr tk => (qss_cons (qs_set (i := 3) nd rfl (by first | exact Or.inl rfl | exact Or.inr rfl) (qe_call C.law_layers hr (by decide) tk (by rfl) (qa_cons (qe_var 1) (qa_cons (qe_lc (f := .frz) (own := [("values", 4), ("ledger", 5)]) rfl nd (qi_tup (pi_tup (qe_var 1))) (blkOk_by (N := N_law_right) (sc := defScope s_law_right) (by decide +kernel)) (fun _ _ _ _ _ => (qgv_tup (n := 2) rfl (qgvs_cons (qgv_name (i := 4) (by decide) nd rfl (by first | exact Or.inl rfl | exact Or.inr rfl)) (qgvs_cons (qgv_name (i := 5) (by decide) nd rfl (by first | exact Or.inl rfl | exact Or.inr rfl)) qgvs_nil)))) (fun _ _ _ _ _ => qts_nil) (fun _ _ _ _ _ => (qe_ifE (qt_val (qe_var 0)) (qe_callB call_len_seq ref_len (by rfl) B.len (by decide +kernel) (qa_cons (qe_var 5) qa_nil)) qe_int))) (qa_cons (qe_var 2) qa_nil)))))
    (qss_cons (qs_asg (qe_call C.law_told hr (by decide) tk (by rfl) (qa_cons (qe_var 0) (qa_cons (qe_var 1) (qa_cons (qe_var 2) qa_nil)))) (qg_tup (n := 2) rfl (qgs_cons (qg_name (i := 6) nd rfl (by first | exact Or.inl rfl | exact Or.inr rfl)) (qgs_cons (qg_name (i := 7) nd rfl (by first | exact Or.inl rfl | exact Or.inr rfl)) qgs_nil))))
    (qss_cons (qs_if (QW.qt (qw_or (qt_not (qt_val (qe_var 6))) (qw_or (qt_cmp (op_neD hr.units) ref_ne (qe_var 7) (qe_var 3) (nomark _)) (qw_or1 (qt_val (qe_call C.law_truth hr (by decide) tk (by rfl) (qa_cons (qe_var 7) qa_nil))))))) (qss_one (qs_ret qe_bl)) qss_nil)
    (qss_cons (qs_if (qt_val (qe_var 0)) (qss_one (qs_ret (qe_cmp (op_is_bl) ref_isB (qe_call C.judge_row_depths hr (by decide) tk (by rfl) (qa_cons (qe_var 1) (qa_cons (qe_var 2) (qa_cons (qe_var 3) qa_nil)))) qe_bl (nomark _)))) qss_nil)
    (qss_one (qs_ret (qe_cmp (op_is_bl) ref_isB (qe_call C.judge_depths hr (by decide) tk (by rfl) (qa_cons (qe_var 1) (qa_cons (qe_var 2) (qa_cons (qe_var 3) qa_nil)))) qe_bl (nomark _))))))))) (fun ds l Qd Ed hl h => ?_)
  obtain ⟨b, As, n, rfl, rfl, hA, hn8, hn, q⟩ := h
  walk_at "q"
  refine lcI (fun i acc l => acc = natsD ((As.take i).map fun a => if b = true then a.2.length else 1) ∧ l = []) (by rw [List.length_map]; exact Nat.lt_of_le_of_lt hA (by decide)) ⟨rfl, rfl⟩ ?_ ?_
  · rintro i x acc l hx ha ⟨rfl, rfl⟩
    rw [List.getElem?_map] at hx
    obtain ⟨a, ha1, rfl⟩ := Option.map_eq_some_iff.mp hx
    have hi := (List.getElem?_eq_some_iff.mp ha1).1
    walk_at "q"
    have e1 : ((As.take (i + 1)).map fun a => if b = true then a.2.length else 1) = ((As.take i).map fun a => if b = true then a.2.length else 1) ++ [if b = true then a.2.length else 1] := by
      rw [List.take_add_one, ha1, Option.toList_some, List.map_append]
      rfl
    rw [e1, natsD_app, natsD_len]
    split
    · rename_i hb
      subst hb
      rw [natsD_len] at ha
      refine ⟨⟨by rw [List.length_map] at ha; simpa using ha, by omega⟩, ?_⟩
      simp [natsD]
    · rename_i hb
      rw [natsD_len] at ha
      refine ⟨⟨by rw [List.length_map] at ha; simpa using ha, by omega⟩, ?_⟩
      simp [natsD]
  · rintro acc l ha ⟨rfl, rfl⟩
    rw [List.length_map, List.take_length]
    walk_at "q"
    have ecs : (As.map fun a => if b = true then a.2.length else 1) = if b = true then lens As else ones As := by
      cases b <;> rfl
    rw [ecs]
    have hcl : (if b = true then lens As else ones As).length = As.length := by
      cases b <;> simp [lens, ones]
    refine ⟨As, _, n, rfl, rfl, hcl, hA, hn8, fun a ha => (hn a ha).1, fun c hc => ?_, ?_⟩
    · cases b with
      | true =>
        obtain ⟨a, ha, rfl⟩ := List.mem_map.mp (show c ∈ lens As from hc)
        exact (hn a ha).2
      | false =>
        obtain ⟨a, ha, rfl⟩ := List.mem_map.mp (show c ∈ ones As from hc)
        exact ⟨by omega, by omega⟩
    walk_at "q"
    refine ⟨b, As, n, rfl, rfl, hA, fun a ha => (hn a ha).1, fun _ => ?_, fun z => by omega⟩
    walk_at "q"
    have nb : noB (D.tup ((depL 8 (mkA As (if b = true then lens As else ones As)) (2 ^ n)).map optD)) := by
      simp only [noB]
      intro x hx
      obtain ⟨o, _, rfl⟩ := List.mem_map.mp hx
      cases o <;> simp [noB, optD]
    have dk : dOk 60 (D.tup ((depL 8 (mkA As (if b = true then lens As else ones As)) (2 ^ n)).map optD)) := dOk_tup.mpr fun x hx => by
      obtain ⟨o, _, rfl⟩ := List.mem_map.mp hx
      exact dOk_opt o
    have hz : (D.tup ((depL 8 (mkA As (if b = true then lens As else ones As)) (2 ^ n)).map optD)).sz ≤ 100000 := by
      simp only [D.sz]
      rw [szs_opt, depL_len]
      have hle : 2 ^ n ≤ 2 ^ 8 := Nat.pow_le_pow_right (by decide) hn8
      have hle' : 2 ^ n ≤ 256 := hle
      omega
    refine ⟨dk, dk, ?_⟩
    rw [D.eqv_self nb, if_neg (by decide)]
    refine ⟨_, rfl, rfl, nb, hz, ?_⟩
    walk_at "q"
    split
    · rename_i hb
      refine ⟨As, n, rfl, rfl, hA, hn8, fun a ha => (hn a ha).1, ?_⟩
      walk_at "q"
      exact q
    · rename_i hb
      refine ⟨As, n, rfl, rfl, hA, hn8, fun a ha => (hn a ha).1, ?_⟩
      walk_at "q"
      exact q
structure Cs_law (P : Program) (w : World) (K : PySem.W.Frag) (mg : Str → Option Value) (base : Heap) : Prop where
  law_purse : CalQ P w K mg base 2 "_law_purse" 1 fs_law_purse
  law_take : CalQ P w K mg base 1 "_law_take" 2 fs_law_take
  law_asks : CalQ P w K mg base 3 "_law_asks" 3 fs_law_asks
  law_told : CalQ P w K mg base 6 "_law_told" 3 fs_law_told
  law_right : CalQ P w K mg base 7 "_law_right" 3 fs_law_right
theorem ok_law {f : Addr} {fd : FuncData} (F : Fun K "law" "law" s_law f fd) (B : Bt mg) (C : Cs_law P w K mg base) : FnOk P w K mg base (L2N.CX P w) 8 f fd ["script"] (spQ K 1 fs_law) := by
  have nd := sc_law.nd
  refine fun_q (k := 7) F sc_law 1 rfl (fun cdv A outer s H E hr tk => (qss_cons (qs_set (i := 1) nd rfl (by first | exact Or.inl rfl | exact Or.inr rfl) (qe_call C.law_purse hr (by decide) tk (by rfl) (qa_cons (qe_var 0) qa_nil)))
    (qss_cons (qs_set (i := 2) nd rfl (by first | exact Or.inl rfl | exact Or.inr rfl) (qe_cmp (op_eqD hr.units) ref_eq (qe_call C.law_take hr (by decide) tk (by rfl) (qa_cons (qe_var 1) (qa_cons qe_int qa_nil))) qe_int (nomark _)))
    (qss_cons (qs_set (i := 3) nd rfl (by first | exact Or.inl rfl | exact Or.inr rfl) (qe_ifE (qt_val (qe_var 2)) qe_int (qe_op op_add ref_I0 qe_int (qe_call C.law_take hr (by decide) tk (by rfl) (qa_cons (qe_var 1) (qa_cons qe_int qa_nil))))))
    (qss_cons (qs_set (i := 4) nd rfl (by first | exact Or.inl rfl | exact Or.inr rfl) (qe_call C.law_asks hr (by decide) tk (by rfl) (qa_cons (qe_var 1) (qa_cons (qe_var 3) (qa_cons (qe_ifE (qt_val (qe_var 2)) qe_int qe_int) qa_nil)))))
    (qss_cons (qs_for (passes_of rfl) rfl (qi_tup (pi_tup (qe_tup (qa_cons qe_bl (qa_cons qe_bl qa_nil))))) (qg_name (i := 5) nd rfl (by first | exact Or.inl rfl | exact Or.inr rfl)) (qss_cons (qs_if (qt_not (qt_val (qe_call C.law_right hr (by decide) tk (by rfl) (qa_cons (qe_var 5) (qa_cons (qe_var 4) (qa_cons (qe_var 3) qa_nil)))))) (qss_one (qs_ret qe_bl)) qss_nil)
    (qss_one (qs_if (QW.qt (qw_and (qt_not (qt_val (qe_var 2))) (qw_and1 (qt_not (QW.qt (qw_and (qt_val (qe_call C.law_right hr (by decide) tk (by rfl) (qa_cons (qe_var 5) (qa_cons (qe_revT (qe_var 4)) (qa_cons (qe_var 3) qa_nil))))) (qw_and1 (qt_val (qe_call C.law_right hr (by decide) tk (by rfl) (qa_cons (qe_var 5) (qa_cons (qe_sl sl_tupA ref_slT (qe_var 4) qo_none (qo_some qe_int)) (qa_cons (qe_var 3) qa_nil)))))))))))) (qss_one (qs_ret qe_bl)) qss_nil))))
    (qss_cons (qs_set (i := 6) nd rfl (by first | exact Or.inl rfl | exact Or.inr rfl) (qe_op op_add ref_I0 qe_int (qe_call C.law_take hr (by decide) tk (by rfl) (qa_cons (qe_var 1) (qa_cons qe_int qa_nil)))))
    (qss_cons (qs_set (i := 7) nd rfl (by first | exact Or.inl rfl | exact Or.inr rfl) (qe_callTy call_tuple_of ref_tuple (by rfl) B.tuple (by decide +kernel) (qa_cons (qe_lc (f := .frz) (own := [("thing", 8)]) rfl nd (qi_range1 (pi_range1 (by rfl) B.range (qa_cons (qe_var 6) qa_nil))) (blkOk_by (N := N_law) (sc := defScope s_law) (by decide +kernel)) (fun _ _ _ _ _ => (qgv_name (i := 8) (by decide) nd rfl (by first | exact Or.inl rfl | exact Or.inr rfl))) (fun _ _ _ _ _ => qts_nil) (fun _ _ _ _ _ => (qe_op op_mod ref_II (qe_callTy call_int1 ref_int (by rfl) B.int (by decide +kernel) (qa_cons (qe_var 8) qa_nil)) qe_int))) qa_nil)))
    (qss_cons (qs_set (i := 9) nd rfl (by first | exact Or.inl rfl | exact Or.inr rfl) (qe_callTy call_tuple_of ref_tuple (by rfl) B.tuple (by decide +kernel) (qa_cons (qe_lc (f := .frz) (own := [("thing", 8)]) rfl nd (qi_range1 (pi_range1 (by rfl) B.range (qa_cons (qe_var 6) qa_nil))) (blkOk_by (N := N_law) (sc := defScope s_law) (by decide +kernel)) (fun _ _ _ _ _ => (qgv_name (i := 8) (by decide) nd rfl (by first | exact Or.inl rfl | exact Or.inr rfl))) (fun _ _ _ _ _ => qts_nil) (fun _ _ _ _ _ => (qe_op op_fdiv ref_II (qe_var 8) qe_int))) qa_nil)))
    (qss_cons (qs_set (i := 10) nd rfl (by first | exact Or.inl rfl | exact Or.inr rfl) (qe_tup (qa_cons (qe_tup (qa_cons (qe_var 7) (qa_cons (qe_tup (qa_cons qe_int qa_nil)) qa_nil))) (qa_cons (qe_tup (qa_cons (qe_var 9) (qa_cons (qe_tup (qa_cons qe_int qa_nil)) qa_nil))) qa_nil))))
    (qss_one (qs_ret (qe_and (qe_cmp (op_eqD hr.units) ref_eq (qe_call C.law_told hr (by decide) tk (by rfl) (qa_cons qe_bl (qa_cons (qe_var 10) (qa_cons (qe_var 6) qa_nil)))) (qe_tup (qa_cons qe_bl (qa_cons qe_int qa_nil))) (nomark _)) (qe_one (qe_cmp (op_eqD hr.units) ref_eq (qe_call C.law_told hr (by decide) tk (by rfl) (qa_cons qe_bl (qa_cons (qe_var 10) (qa_cons (qe_var 6) qa_nil)))) (qe_tup (qa_cons qe_bl (qa_cons qe_int qa_nil))) (nomark _)))))))))))))))) (fun ds l Qd Ed hl h => ?_)
  obtain ⟨ns, rfl, rfl, hn, q⟩ := h
  walk_at "q"
  refine ⟨ns, rfl, rfl, hn, fun ns1 h1 h2 => ?_⟩
  have hp1 : Pur ns1 := ⟨h1, h2⟩
  walk_at "q"
  refine ⟨ns1, 16, rfl, rfl, hp1, by omega, by omega, fun r2 ns2 r20 r21 hp2 => ?_⟩
  walk_at "q"
  split
  · rename_i h11
    refine ⟨ns2, 8, 5, rfl, rfl, hp2, by omega, by omega, by omega, fun As ns4 hAl hAs hp4 => ?_⟩
    walk_at "q"
    refine loopX (fun i σ l => ∃ x5, σ = [some (.d (.scr (ns.map .int))), some (.loc 0), some (.d (.bl (decide (r2 = 11)))), some (.d (.int 8)), some (.d (asksD As)), x5, none, none, none, none, none] ∧ l = [.lst (ns4.map .int)]) ⟨_, rfl, rfl⟩ ?_ ?_
    · rintro i x σ l hx ⟨x5, rfl, rfl⟩
      obtain ⟨b, rfl⟩ : ∃ b : Bool, x = .bl b := by
        have := List.mem_of_getElem? hx
        simp only [List.mem_cons, List.not_mem_nil, or_false] at this
        rcases this with rfl | rfl
        · exact ⟨false, rfl⟩
        · exact ⟨true, rfl⟩
      walk_at "q"
      refine ⟨b, As, 8, rfl, rfl, by omega, by omega, hAs, ?_⟩
      walk_at "q"
      rw [if_neg (fun z => z h11)]
      exact ⟨_, rfl⟩
    · rintro σ l ⟨x5, rfl, rfl⟩
      walk_at "q"
      refine ⟨ns4, 3, rfl, rfl, hp4, by omega, by omega, fun r5 ns5 r50 r51 hp5 => ?_⟩
      obtain ⟨c5, rfl⟩ : ∃ c : Nat, r5 = (c : Int) := ⟨r5.toNat, by omega⟩
      walk_at "q"
      rw [show (9 : Int) + (c5 : Int) = ((9 + c5 : Nat) : Int) from rfl]
      refine ⟨by omega, by omega, ?_⟩
      refine lcI (fun i acc l => acc = natsD ((List.range i).map (· % 3)) ∧ l = [.lst (ns5.map .int)]) (by rw [rangeD_len]; exact Nat.lt_of_le_of_lt (by omega : _ ≤ 20) (by decide)) ⟨rfl, rfl⟩ ?_ ?_
      · rintro i x acc l hx ha ⟨rfl, rfl⟩
        obtain ⟨hi, rfl⟩ := rangeD_get hx
        walk_at "q"
        rw [natsD_len] at ha
        rw [List.length_map, List.length_range] at ha
        refine ⟨⟨by rw [natsD_len, List.length_map, List.length_range], by omega⟩, ?_⟩
        rw [List.range_succ, List.map_append, natsD_app]
        simp [natsD]
      · rintro acc l ha ⟨rfl, rfl⟩
        rw [rangeD_len, Int.toNat_natCast]
        walk_at "q"
        refine ⟨by omega, by omega, ?_⟩
        refine lcI (fun i acc l => acc = natsD ((List.range i).map (· / 3)) ∧ l = [.lst (ns5.map .int)]) (by rw [rangeD_len]; exact Nat.lt_of_le_of_lt (by omega : _ ≤ 20) (by decide)) ⟨rfl, rfl⟩ ?_ ?_
        · rintro i x acc l hx ha ⟨rfl, rfl⟩
          obtain ⟨hi, rfl⟩ := rangeD_get hx
          walk_at "q"
          rw [natsD_len, List.length_map, List.length_range] at ha
          refine ⟨⟨by rw [natsD_len, List.length_map, List.length_range], by omega⟩, ?_⟩
          rw [List.range_succ, List.map_append, natsD_app]
          simp [natsD]
        · rintro acc l ha ⟨rfl, rfl⟩
          rw [rangeD_len, Int.toNat_natCast]
          walk_at "q"
          refine ⟨false, [((List.range (9 + c5)).map (· % 3), [0]), ((List.range (9 + c5)).map (· / 3), [1])], 9 + c5, rfl, rfl, by simp, fun a ha => ?_, fun z => by omega, fun _ => ?_⟩
          · simp only [List.mem_cons, List.not_mem_nil, or_false] at ha
            rcases ha with rfl | rfl <;> simp
          walk_at "q"
          have ee : (D.tup [.bl false, .int 8]).eqv (D.tup [.bl false, .int 8]) = true := by decide
          rw [ee]
          refine ⟨dOk_bl.mpr trivial, dOk_bl.mpr trivial, ?_⟩
          rw [if_pos rfl]
          refine ⟨true, [((List.range (9 + c5)).map (· % 3), [0]), ((List.range (9 + c5)).map (· / 3), [1])], 9 + c5, rfl, rfl, by simp, fun a ha => ?_, fun z => by omega, fun _ => ?_⟩
          · simp only [List.mem_cons, List.not_mem_nil, or_false] at ha
            rcases ha with rfl | rfl <;> simp
          walk_at "q"
          rw [ee]
          exact ⟨dOk_bl.mpr trivial, dOk_bl.mpr trivial, q⟩
  · rename_i h11
    refine ⟨ns2, 6, rfl, rfl, hp2, by omega, by omega, fun r3 ns3 r30 r31 hp3 => ?_⟩
    obtain ⟨c3, rfl⟩ : ∃ c : Nat, r3 = (c : Int) := ⟨r3.toNat, by omega⟩
    walk_at "q"
    rw [if_neg h11, show (1 : Int) + (c3 : Int) = ((1 + c3 : Nat) : Int) from rfl]
    refine ⟨ns3, 1 + c3, 6, rfl, rfl, hp3, by omega, by omega, by omega, fun As ns4 hAl hAs hp4 => ?_⟩
    walk_at "q"
    refine loopX (fun i σ l => ∃ x5, σ = [some (.d (.scr (ns.map .int))), some (.loc 0), some (.d (.bl (decide (r2 = 11)))), some (.d (.int ((1 + c3 : Nat) : Int))), some (.d (asksD As)), x5, none, none, none, none, none] ∧ l = [.lst (ns4.map .int)]) ⟨_, rfl, rfl⟩ ?_ ?_
    · rintro i x σ l hx ⟨x5, rfl, rfl⟩
      obtain ⟨b, rfl⟩ : ∃ b : Bool, x = .bl b := by
        have := List.mem_of_getElem? hx
        simp only [List.mem_cons, List.not_mem_nil, or_false] at this
        rcases this with rfl | rfl
        · exact ⟨false, rfl⟩
        · exact ⟨true, rfl⟩
      walk_at "q"
      refine ⟨b, As, 1 + c3, rfl, rfl, by omega, by omega, hAs, ?_⟩
      walk_at "q"
      rw [if_pos h11, ← List.map_reverse]
      refine ⟨b, As.reverse, 1 + c3, rfl, rfl, by rw [List.length_reverse]; omega, by omega, fun a ha => hAs a (by simpa using ha), ?_⟩
      walk_at "q"
      rw [show ∀ xs : List D, QL.cutD xs none (some 1) = xs.take 1 from fun xs => cutTake (k := 1), ← List.map_take]
      refine ⟨b, As.take 1, 1 + c3, rfl, rfl, by rw [List.length_take]; omega, by omega, fun a ha => hAs a (List.mem_of_mem_take ha), ?_⟩
      walk_at "q"
      exact ⟨_, rfl⟩
    · rintro σ l ⟨x5, rfl, rfl⟩
      walk_at "q"
      refine ⟨ns4, 3, rfl, rfl, hp4, by omega, by omega, fun r5 ns5 r50 r51 hp5 => ?_⟩
      obtain ⟨c5, rfl⟩ : ∃ c : Nat, r5 = (c : Int) := ⟨r5.toNat, by omega⟩
      walk_at "q"
      rw [show (9 : Int) + (c5 : Int) = ((9 + c5 : Nat) : Int) from rfl]
      refine ⟨by omega, by omega, ?_⟩
      refine lcI (fun i acc l => acc = natsD ((List.range i).map (· % 3)) ∧ l = [.lst (ns5.map .int)]) (by rw [rangeD_len]; exact Nat.lt_of_le_of_lt (by omega : _ ≤ 20) (by decide)) ⟨rfl, rfl⟩ ?_ ?_
      · rintro i x acc l hx ha ⟨rfl, rfl⟩
        obtain ⟨hi, rfl⟩ := rangeD_get hx
        walk_at "q"
        rw [natsD_len] at ha
        rw [List.length_map, List.length_range] at ha
        refine ⟨⟨by rw [natsD_len, List.length_map, List.length_range], by omega⟩, ?_⟩
        rw [List.range_succ, List.map_append, natsD_app]
        simp [natsD]
      · rintro acc l ha ⟨rfl, rfl⟩
        rw [rangeD_len, Int.toNat_natCast]
        walk_at "q"
        refine ⟨by omega, by omega, ?_⟩
        refine lcI (fun i acc l => acc = natsD ((List.range i).map (· / 3)) ∧ l = [.lst (ns5.map .int)]) (by rw [rangeD_len]; exact Nat.lt_of_le_of_lt (by omega : _ ≤ 20) (by decide)) ⟨rfl, rfl⟩ ?_ ?_
        · rintro i x acc l hx ha ⟨rfl, rfl⟩
          obtain ⟨hi, rfl⟩ := rangeD_get hx
          walk_at "q"
          rw [natsD_len, List.length_map, List.length_range] at ha
          refine ⟨⟨by rw [natsD_len, List.length_map, List.length_range], by omega⟩, ?_⟩
          rw [List.range_succ, List.map_append, natsD_app]
          simp [natsD]
        · rintro acc l ha ⟨rfl, rfl⟩
          rw [rangeD_len, Int.toNat_natCast]
          walk_at "q"
          refine ⟨false, [((List.range (9 + c5)).map (· % 3), [0]), ((List.range (9 + c5)).map (· / 3), [1])], 9 + c5, rfl, rfl, by simp, fun a ha => ?_, fun z => by omega, fun _ => ?_⟩
          · simp only [List.mem_cons, List.not_mem_nil, or_false] at ha
            rcases ha with rfl | rfl <;> simp
          walk_at "q"
          have ee : (D.tup [.bl false, .int 8]).eqv (D.tup [.bl false, .int 8]) = true := by decide
          rw [ee]
          refine ⟨dOk_bl.mpr trivial, dOk_bl.mpr trivial, ?_⟩
          rw [if_pos rfl]
          refine ⟨true, [((List.range (9 + c5)).map (· % 3), [0]), ((List.range (9 + c5)).map (· / 3), [1])], 9 + c5, rfl, rfl, by simp, fun a ha => ?_, fun z => by omega, fun _ => ?_⟩
          · simp only [List.mem_cons, List.not_mem_nil, or_false] at ha
            rcases ha with rfl | rfl <;> simp
          walk_at "q"
          rw [ee]
          exact ⟨dOk_bl.mpr trivial, dOk_bl.mpr trivial, q⟩
end
abbrev m_TooMany : Stmt := methS (top 5) 0
theorem g_TooMany : ∃ q1 q2 q3 q4, SupT m_TooMany ["self", "limit"] ["self", "limit"] [.Assign [.Attribute (.Name "self" q1) "limit" q2] (.Name "limit" q3) q4] :=
  ⟨_, _, _, _, ⟨_, _, _, _, _, _, _, _, rfl, fun env => ⟨_, rfl⟩⟩, ⟨rfl, rfl, rfl, by decide +kernel, rfl, by decide +kernel, by decide +kernel, by decide +kernel, rfl, rfl⟩, ⟨_, rfl, rfl⟩⟩
set_option maxHeartbeats 0 in
theorem all_mk {l : PySem.W.OpenLaw} {w : World} {K : PySem.W.Frag} {h : Heap} {mg : Str → Option Value} {fa f0 f1 f2 f3 f4 f5 f6 f7 f8 f9 f10 f11 f12 f13 f14 f15 f16 f17 f18 f19 f20 f21 f22 f23 f24 f25 f26 f27 : Addr} (X : K.In h) (G : h.Ns mainGlobals mg) (hfa : mg "law" = some (.ref fa))
    {od0 an0 od1 an1 od2 an2 od3 an3 od4 an4 od5 an5 od6 an6 od7 an7 od8 an8 od9 an9 od10 an10 od11 an11 od12 an12 od13 an13 od14 an14 od15 an15 od16 an16 od17 an17 od18 an18 od19 an19 od20 an20 od21 an21 od22 an22 od23 an23 od24 an24 od25 an25 od26 an26 od27 an27 : Option Addr} {sl0 sl1 sl2 sl3 sl4 sl5 sl6 sl7 sl8 sl9 sl10 sl11 sl12 sl13 sl14 sl15 sl16 sl17 sl18 sl19 sl20 sl21 sl22 sl23 sl24 sl25 sl26 sl27 : Array (Option Value)} {oc0 kV0 dc0 pm0 cd0 ct0 oc1 kV1 dc1 pm1 cd1 ct1 oc2 kV2 dc2 pm2 cd2 ct2 oc3 kV3 dc3 pm3 cd3 ct3 oc4 kV4 dc4 pm4 cd4 ct4 oc5 kV5 dc5 pm5 cd5 ct5 oc6 kV6 dc6 pm6 cd6 ct6 oc7 kV7 dc7 pm7 cd7 ct7 oc8 kV8 dc8 pm8 cd8 ct8 oc9 kV9 dc9 pm9 cd9 ct9 oc10 kV10 dc10 pm10 cd10 ct10 oc11 kV11 dc11 pm11 cd11 ct11 oc12 kV12 dc12 pm12 cd12 ct12 oc13 kV13 dc13 pm13 cd13 ct13 oc14 kV14 dc14 pm14 cd14 ct14 oc15 kV15 dc15 pm15 cd15 ct15 oc16 kV16 dc16 pm16 cd16 ct16 oc17 kV17 dc17 pm17 cd17 ct17 oc18 kV18 dc18 pm18 cd18 ct18 oc19 kV19 dc19 pm19 cd19 ct19 oc20 kV20 dc20 pm20 cd20 ct20 oc21 kV21 dc21 pm21 cd21 ct21 oc22 kV22 dc22 pm22 cd22 ct22 oc23 kV23 dc23 pm23 cd23 ct23 oc24 kV24 dc24 pm24 cd24 ct24 oc25 kV25 dc25 pm25 cd25 ct25 oc26 kV26 dc26 pm26 cd26 ct26 oc27 kV27 dc27 pm27 cd27 ct27 : Value}
    {C0 : Addr}
    (aC0 : PySem.W.nsIn K mainGlobals "TooMany" = some (some (.ref C0)))
    {fI0 cda0 cc0 : Addr} {xoc0 xkV0 xdc0 xpm0 xct0 ccl0 xcl0 : Value} {xod0 xan0 cdd0 cld0 : Option Addr} {xsl0 csl0 ccs0 : Array (Option Value)} {vs0 : Array Value} {file0 : Str} {tf0 : Tok}
    (bC0 : clsB K C0 = true)
    (iC0 : PySem.W.findIn K (.ref C0) "__init__" = some (some (.ref fI0)))
    (tI0 : PySem.W.typeIn K (.ref fI0) = some (.type "function"))
    (lI0 : K.lookup fI0 = some ⟨xoc0, xod0, .func (PySem.W.ksFn "__init__" "TooMany.__init__" (defArgs m_TooMany) (defBody m_TooMany) (defScope m_TooMany) .none xkV0 xdc0 xpm0 xan0 (.ref cda0) xct0 cc0), xsl0⟩)
    (cI0 : PySem.W.codeIn K (.ref cda0) "TooMany.__init__" = true)
    (dI0 : K.lookup cda0 = some ⟨ccl0, cdd0, .fields vs0, ccs0⟩)
    (vI0 : vs0[2]? = some (.str file0 tf0))
    (eI0 : ((l.prog.main.file : Str) == file0) = true)
    (kI0 : K.lookup cc0 = some ⟨xcl0, cld0, .cell (some (.ref C0)), csl0⟩)
    (sI0 : PySem.W.ks_superIn K C0 C0 "__init__" = some (some (.builtin "ValueError.__init__")))
    (bI0 : PySem.W.subIn K (.ref C0) (.type "ValueError") = some true)
    (n0_limit : PySem.W.findIn K (.ref C0) "limit" = some none)
    (hI : (l.prog.main.scope.names.lookup ("super" : Str)).isSome = false)
    (oI : PySem.W.nsIn K cStatics "thirdparty.any" = some none)
    (zI : PySem.W.nsIn K mainGlobals "super" = some none)
    (x0_0 : PySem.W.exmOne K (.ref C0) (.ref C0) = some true)
    {gu0 : Value}
    (gc0 : PySem.W.nsIn K mainGlobals "MOST_THINGS" = some (some gu0))
    (gr0 : RelV (.int 8) gu0)
    (a0 : PySem.W.nsIn K mainGlobals "_law_mixed" = some (some (.ref f0)))
    (l0 : K.lookup f0 = some ⟨oc0, od0, .func (PySem.W.fnOf "_law_mixed" "_law_mixed" (defArgs s_law_mixed) (defBody s_law_mixed) (defScope s_law_mixed) .none kV0 dc0 pm0 an0 cd0 ct0), sl0⟩)
    (c0 : PySem.W.codeIn K cd0 "_law_mixed" = true)
    (k0 : PySem.W.keepIn K (.ref f0) = true)
    (a1 : PySem.W.nsIn K mainGlobals "_law_purse" = some (some (.ref f1)))
    (l1 : K.lookup f1 = some ⟨oc1, od1, .func (PySem.W.fnOf "_law_purse" "_law_purse" (defArgs s_law_purse) (defBody s_law_purse) (defScope s_law_purse) .none kV1 dc1 pm1 an1 cd1 ct1), sl1⟩)
    (c1 : PySem.W.codeIn K cd1 "_law_purse" = true)
    (k1 : PySem.W.keepIn K (.ref f1) = true)
    (a2 : PySem.W.nsIn K mainGlobals "_law_take" = some (some (.ref f2)))
    (l2 : K.lookup f2 = some ⟨oc2, od2, .func (PySem.W.fnOf "_law_take" "_law_take" (defArgs s_law_take) (defBody s_law_take) (defScope s_law_take) .none kV2 dc2 pm2 an2 cd2 ct2), sl2⟩)
    (c2 : PySem.W.codeIn K cd2 "_law_take" = true)
    (k2 : PySem.W.keepIn K (.ref f2) = true)
    (a3 : PySem.W.nsIn K mainGlobals "_law_row" = some (some (.ref f3)))
    (l3 : K.lookup f3 = some ⟨oc3, od3, .func (PySem.W.fnOf "_law_row" "_law_row" (defArgs s_law_row) (defBody s_law_row) (defScope s_law_row) .none kV3 dc3 pm3 an3 cd3 ct3), sl3⟩)
    (c3 : PySem.W.codeIn K cd3 "_law_row" = true)
    (k3 : PySem.W.keepIn K (.ref f3) = true)
    (a4 : PySem.W.nsIn K mainGlobals "_law_asks" = some (some (.ref f4)))
    (l4 : K.lookup f4 = some ⟨oc4, od4, .func (PySem.W.fnOf "_law_asks" "_law_asks" (defArgs s_law_asks) (defBody s_law_asks) (defScope s_law_asks) .none kV4 dc4 pm4 an4 cd4 ct4), sl4⟩)
    (c4 : PySem.W.codeIn K cd4 "_law_asks" = true)
    (k4 : PySem.W.keepIn K (.ref f4) = true)
    (a5 : PySem.W.nsIn K mainGlobals "members" = some (some (.ref f5)))
    (l5 : K.lookup f5 = some ⟨oc5, od5, .func (PySem.W.fnOf "members" "members" (defArgs s_members) (defBody s_members) (defScope s_members) .none kV5 dc5 pm5 an5 cd5 ct5), sl5⟩)
    (c5 : PySem.W.codeIn K cd5 "members" = true)
    (k5 : PySem.W.keepIn K (.ref f5) = true)
    (a6 : PySem.W.nsIn K mainGlobals "classes_by" = some (some (.ref f6)))
    (l6 : K.lookup f6 = some ⟨oc6, od6, .func (PySem.W.fnOf "classes_by" "classes_by" (defArgs s_classes_by) (defBody s_classes_by) (defScope s_classes_by) .none kV6 dc6 pm6 an6 cd6 ct6), sl6⟩)
    (c6 : PySem.W.codeIn K cd6 "classes_by" = true)
    (k6 : PySem.W.keepIn K (.ref f6) = true)
    (a7 : PySem.W.nsIn K mainGlobals "worst_of" = some (some (.ref f7)))
    (l7 : K.lookup f7 = some ⟨oc7, od7, .func (PySem.W.fnOf "worst_of" "worst_of" (defArgs s_worst_of) (defBody s_worst_of) (defScope s_worst_of) .none kV7 dc7 pm7 an7 cd7 ct7), sl7⟩)
    (c7 : PySem.W.codeIn K cd7 "worst_of" = true)
    (k7 : PySem.W.keepIn K (.ref f7) = true)
    (a8 : PySem.W.nsIn K mainGlobals "best_at" = some (some (.ref f8)))
    (l8 : K.lookup f8 = some ⟨oc8, od8, .func (PySem.W.fnOf "best_at" "best_at" (defArgs s_best_at) (defBody s_best_at) (defScope s_best_at) .none kV8 dc8 pm8 an8 cd8 ct8), sl8⟩)
    (c8 : PySem.W.codeIn K cd8 "best_at" = true)
    (k8 : PySem.W.keepIn K (.ref f8) = true)
    (a9 : PySem.W.nsIn K mainGlobals "solved" = some (some (.ref f9)))
    (l9 : K.lookup f9 = some ⟨oc9, od9, .func (PySem.W.fnOf "solved" "solved" (defArgs s_solved) (defBody s_solved) (defScope s_solved) .none kV9 dc9 pm9 an9 cd9 ct9), sl9⟩)
    (c9 : PySem.W.codeIn K cd9 "solved" = true)
    (k9 : PySem.W.keepIn K (.ref f9) = true)
    (a10 : PySem.W.nsIn K mainGlobals "ask_depths" = some (some (.ref f10)))
    (l10 : K.lookup f10 = some ⟨oc10, od10, .func (PySem.W.fnOf "ask_depths" "ask_depths" (defArgs s_ask_depths) (defBody s_ask_depths) (defScope s_ask_depths) .none kV10 dc10 pm10 an10 cd10 ct10), sl10⟩)
    (c10 : PySem.W.codeIn K cd10 "ask_depths" = true)
    (k10 : PySem.W.keepIn K (.ref f10) = true)
    (a11 : PySem.W.nsIn K mainGlobals "row_depths" = some (some (.ref f11)))
    (l11 : K.lookup f11 = some ⟨oc11, od11, .func (PySem.W.fnOf "row_depths" "row_depths" (defArgs s_row_depths) (defBody s_row_depths) (defScope s_row_depths) .none kV11 dc11 pm11 an11 cd11 ct11), sl11⟩)
    (c11 : PySem.W.codeIn K cd11 "row_depths" = true)
    (k11 : PySem.W.keepIn K (.ref f11) = true)
    (a12 : PySem.W.nsIn K mainGlobals "_law_told" = some (some (.ref f12)))
    (l12 : K.lookup f12 = some ⟨oc12, od12, .func (PySem.W.fnOf "_law_told" "_law_told" (defArgs s_law_told) (defBody s_law_told) (defScope s_law_told) .none kV12 dc12 pm12 an12 cd12 ct12), sl12⟩)
    (c12 : PySem.W.codeIn K cd12 "_law_told" = true)
    (k12 : PySem.W.keepIn K (.ref f12) = true)
    (a13 : PySem.W.nsIn K mainGlobals "is_number" = some (some (.ref f13)))
    (l13 : K.lookup f13 = some ⟨oc13, od13, .func (PySem.W.fnOf "is_number" "is_number" (defArgs s_is_number) (defBody s_is_number) (defScope s_is_number) .none kV13 dc13 pm13 an13 cd13 ct13), sl13⟩)
    (c13 : PySem.W.codeIn K cd13 "is_number" = true)
    (k13 : PySem.W.keepIn K (.ref f13) = true)
    (a14 : PySem.W.nsIn K mainGlobals "is_tuple_of" = some (some (.ref f14)))
    (l14 : K.lookup f14 = some ⟨oc14, od14, .func (PySem.W.fnOf "is_tuple_of" "is_tuple_of" (defArgs s_is_tuple_of) (defBody s_is_tuple_of) (defScope s_is_tuple_of) .none kV14 dc14 pm14 an14 cd14 ct14), sl14⟩)
    (c14 : PySem.W.codeIn K cd14 "is_tuple_of" = true)
    (k14 : PySem.W.keepIn K (.ref f14) = true)
    (a15 : PySem.W.nsIn K mainGlobals "are_parted" = some (some (.ref f15)))
    (l15 : K.lookup f15 = some ⟨oc15, od15, .func (PySem.W.fnOf "are_parted" "are_parted" (defArgs s_are_parted) (defBody s_are_parted) (defScope s_are_parted) .none kV15 dc15 pm15 an15 cd15 ct15), sl15⟩)
    (c15 : PySem.W.codeIn K cd15 "are_parted" = true)
    (k15 : PySem.W.keepIn K (.ref f15) = true)
    (a16 : PySem.W.nsIn K mainGlobals "worst_class" = some (some (.ref f16)))
    (l16 : K.lookup f16 = some ⟨oc16, od16, .func (PySem.W.fnOf "worst_class" "worst_class" (defArgs s_worst_class) (defBody s_worst_class) (defScope s_worst_class) .none kV16 dc16 pm16 an16 cd16 ct16), sl16⟩)
    (c16 : PySem.W.codeIn K cd16 "worst_class" = true)
    (k16 : PySem.W.keepIn K (.ref f16) = true)
    (a17 : PySem.W.nsIn K mainGlobals "is_least_depth" = some (some (.ref f17)))
    (l17 : K.lookup f17 = some ⟨oc17, od17, .func (PySem.W.fnOf "is_least_depth" "is_least_depth" (defArgs s_is_least_depth) (defBody s_is_least_depth) (defScope s_is_least_depth) .none kV17 dc17 pm17 an17 cd17 ct17), sl17⟩)
    (c17 : PySem.W.codeIn K cd17 "is_least_depth" = true)
    (k17 : PySem.W.keepIn K (.ref f17) = true)
    (a18 : PySem.W.nsIn K mainGlobals "judge_costs" = some (some (.ref f18)))
    (l18 : K.lookup f18 = some ⟨oc18, od18, .func (PySem.W.fnOf "judge_costs" "judge_costs" (defArgs s_judge_costs) (defBody s_judge_costs) (defScope s_judge_costs) .none kV18 dc18 pm18 an18 cd18 ct18), sl18⟩)
    (c18 : PySem.W.codeIn K cd18 "judge_costs" = true)
    (k18 : PySem.W.keepIn K (.ref f18) = true)
    (a19 : PySem.W.nsIn K mainGlobals "judge_depths" = some (some (.ref f19)))
    (l19 : K.lookup f19 = some ⟨oc19, od19, .func (PySem.W.fnOf "judge_depths" "judge_depths" (defArgs s_judge_depths) (defBody s_judge_depths) (defScope s_judge_depths) .none kV19 dc19 pm19 an19 cd19 ct19), sl19⟩)
    (c19 : PySem.W.codeIn K cd19 "judge_depths" = true)
    (k19 : PySem.W.keepIn K (.ref f19) = true)
    (a20 : PySem.W.nsIn K mainGlobals "judge_row_depths" = some (some (.ref f20)))
    (l20 : K.lookup f20 = some ⟨oc20, od20, .func (PySem.W.fnOf "judge_row_depths" "judge_row_depths" (defArgs s_judge_row_depths) (defBody s_judge_row_depths) (defScope s_judge_row_depths) .none kV20 dc20 pm20 an20 cd20 ct20), sl20⟩)
    (c20 : PySem.W.codeIn K cd20 "judge_row_depths" = true)
    (k20 : PySem.W.keepIn K (.ref f20) = true)
    (a21 : PySem.W.nsIn K mainGlobals "_law_truth" = some (some (.ref f21)))
    (l21 : K.lookup f21 = some ⟨oc21, od21, .func (PySem.W.fnOf "_law_truth" "_law_truth" (defArgs s_law_truth) (defBody s_law_truth) (defScope s_law_truth) .none kV21 dc21 pm21 an21 cd21 ct21), sl21⟩)
    (c21 : PySem.W.codeIn K cd21 "_law_truth" = true)
    (k21 : PySem.W.keepIn K (.ref f21) = true)
    (a22 : PySem.W.nsIn K mainGlobals "_law_things" = some (some (.ref f22)))
    (l22 : K.lookup f22 = some ⟨oc22, od22, .func (PySem.W.fnOf "_law_things" "_law_things" (defArgs s_law_things) (defBody s_law_things) (defScope s_law_things) .none kV22 dc22 pm22 an22 cd22 ct22), sl22⟩)
    (c22 : PySem.W.codeIn K cd22 "_law_things" = true)
    (k22 : PySem.W.keepIn K (.ref f22) = true)
    (a23 : PySem.W.nsIn K mainGlobals "_law_split" = some (some (.ref f23)))
    (l23 : K.lookup f23 = some ⟨oc23, od23, .func (PySem.W.fnOf "_law_split" "_law_split" (defArgs s_law_split) (defBody s_law_split) (defScope s_law_split) .none kV23 dc23 pm23 an23 cd23 ct23), sl23⟩)
    (c23 : PySem.W.codeIn K cd23 "_law_split" = true)
    (k23 : PySem.W.keepIn K (.ref f23) = true)
    (a24 : PySem.W.nsIn K mainGlobals "_law_settles" = some (some (.ref f24)))
    (l24 : K.lookup f24 = some ⟨oc24, od24, .func (PySem.W.fnOf "_law_settles" "_law_settles" (defArgs s_law_settles) (defBody s_law_settles) (defScope s_law_settles) .none kV24 dc24 pm24 an24 cd24 ct24), sl24⟩)
    (c24 : PySem.W.codeIn K cd24 "_law_settles" = true)
    (k24 : PySem.W.keepIn K (.ref f24) = true)
    (a25 : PySem.W.nsIn K mainGlobals "_law_layers" = some (some (.ref f25)))
    (l25 : K.lookup f25 = some ⟨oc25, od25, .func (PySem.W.fnOf "_law_layers" "_law_layers" (defArgs s_law_layers) (defBody s_law_layers) (defScope s_law_layers) .none kV25 dc25 pm25 an25 cd25 ct25), sl25⟩)
    (c25 : PySem.W.codeIn K cd25 "_law_layers" = true)
    (k25 : PySem.W.keepIn K (.ref f25) = true)
    (a26 : PySem.W.nsIn K mainGlobals "_law_right" = some (some (.ref f26)))
    (l26 : K.lookup f26 = some ⟨oc26, od26, .func (PySem.W.fnOf "_law_right" "_law_right" (defArgs s_law_right) (defBody s_law_right) (defScope s_law_right) .none kV26 dc26 pm26 an26 cd26 ct26), sl26⟩)
    (c26 : PySem.W.codeIn K cd26 "_law_right" = true)
    (k26 : PySem.W.keepIn K (.ref f26) = true)
    (a27 : PySem.W.nsIn K mainGlobals "law" = some (some (.ref f27)))
    (l27 : K.lookup f27 = some ⟨oc27, od27, .func (PySem.W.fnOf "law" "law" (defArgs s_law) (defBody s_law) (defScope s_law) .none kV27 dc27 pm27 an27 cd27 ct27), sl27⟩)
    (c27 : PySem.W.codeIn K cd27 "law" = true)
    (k27 : PySem.W.keepIn K (.ref f27) = true)
    (z0 : PySem.W.nsIn K mainGlobals "all" = some none)
    (z1 : PySem.W.nsIn K mainGlobals "any" = some none)
    (z2 : PySem.W.nsIn K mainGlobals "bool" = some none)
    (z3 : PySem.W.nsIn K mainGlobals "int" = some none)
    (z4 : PySem.W.nsIn K mainGlobals "isinstance" = some none)
    (z5 : PySem.W.nsIn K mainGlobals "len" = some none)
    (z6 : PySem.W.nsIn K mainGlobals "list" = some none)
    (z7 : PySem.W.nsIn K mainGlobals "max" = some none)
    (z8 : PySem.W.nsIn K mainGlobals "min" = some none)
    (z9 : PySem.W.nsIn K mainGlobals "range" = some none)
    (z10 : PySem.W.nsIn K mainGlobals "sorted" = some none)
    (z11 : PySem.W.nsIn K mainGlobals "tuple" = some none)
    (z12 : PySem.W.nsIn K mainGlobals "zip" = some none)
    : ∃ fd : FuncData, (∀ (s : Shared) (v : Value), BindsTo s fd ⟨[v], []⟩ [("script", v)]) ∧ ∀ base : Heap, K.In base → base.Ns mainGlobals mg → FnOk l.prog w K mg base (L2N.CX l.prog w) 8 fa fd ["script"] (spQ K 1 fs_law) := by
  have e := hfa.symm.trans (PySem.W.mg_of X G a27)
  cases e
  have B : Bt mg := ⟨PySem.W.mg_none_of X G z0, PySem.W.mg_none_of X G z1, PySem.W.mg_none_of X G z2, PySem.W.mg_none_of X G z3, PySem.W.mg_none_of X G z4, PySem.W.mg_none_of X G z5, PySem.W.mg_none_of X G z6, PySem.W.mg_none_of X G z7, PySem.W.mg_none_of X G z8, PySem.W.mg_none_of X G z9, PySem.W.mg_none_of X G z10, PySem.W.mg_none_of X G z11, PySem.W.mg_none_of X G z12⟩
  have M : Mg K mg := ⟨⟨_, PySem.W.mg_of X G gc0, gr0⟩⟩
  have eC0 := clsA_of aC0
  have T0 := clsB_ok bC0
  have S0 : SupI l.prog K mg C0 m_TooMany "TooMany.__init__" fI0 (PySem.W.ksFn "__init__" "TooMany.__init__" (defArgs m_TooMany) (defBody m_TooMany) (defScope m_TooMany) .none xkV0 xdc0 xpm0 xan0 (.ref cda0) xct0 cc0) :=
    ⟨⟨_, _, _, _, _, _, _, _, _, _, _, _, _, _, _, _, _, _, _, rfl, lI0, cI0, dI0, vI0, eI0, kI0⟩, hI, T0.oex, sI0, bI0, oI, PySem.W.mg_none_of X G zI⟩
  obtain ⟨_, _, _, _, g0⟩ := g_TooMany
  have x0 : ∀ base, MkQ l.prog w K mg base 1 "TooMany" ["limit"] := fun base => ⟨fI0, _, ["self", "limit"], by rw [eC0]; exact T0.oex, by rw [eC0]; exact iC0, tI0, by rw [eC0]; exact init1 S0 g0 n0_limit (by decide) (by decide), .all (fun us hl => match us, hl with | [_, _], _ => rfl), by rw [eC0]; exact PySem.W.mg_of X G aC0⟩
  have Y : Ys K mg := by
   refine ⟨?y0, ?y1, ?y2⟩
   case y0 => rw [eC0]; exact PySem.W.mg_of X G aC0
   case y1 => exact tabAll (by
    intro p hp
    simp only [List.mem_cons, List.not_mem_nil, or_false] at hp
    subst hp
    show PySem.W.exmOne K (.ref (clsA K "TooMany")) (.ref (clsA K "TooMany")) = some true
    rw [eC0]
    exact x0_0)
   case y2 => 
      intro y hy
      simp only [List.mem_cons, List.not_mem_nil, or_false] at hy
      subst hy
      rw [eC0]
      exact ⟨T0.xf, n0_limit⟩
  have F0 := fun_mk (st := s_law_mixed) l0 c0 k0
  have F1 := fun_mk (st := s_law_purse) l1 c1 k1
  have F2 := fun_mk (st := s_law_take) l2 c2 k2
  have F3 := fun_mk (st := s_law_row) l3 c3 k3
  have F4 := fun_mk (st := s_law_asks) l4 c4 k4
  have F5 := fun_mk (st := s_members) l5 c5 k5
  have F6 := fun_mk (st := s_classes_by) l6 c6 k6
  have F7 := fun_mk (st := s_worst_of) l7 c7 k7
  have F8 := fun_mk (st := s_best_at) l8 c8 k8
  have F9 := fun_mk (st := s_solved) l9 c9 k9
  have F10 := fun_mk (st := s_ask_depths) l10 c10 k10
  have F11 := fun_mk (st := s_row_depths) l11 c11 k11
  have F12 := fun_mk (st := s_law_told) l12 c12 k12
  have F13 := fun_mk (st := s_is_number) l13 c13 k13
  have F14 := fun_mk (st := s_is_tuple_of) l14 c14 k14
  have F15 := fun_mk (st := s_are_parted) l15 c15 k15
  have F16 := fun_mk (st := s_worst_class) l16 c16 k16
  have F17 := fun_mk (st := s_is_least_depth) l17 c17 k17
  have F18 := fun_mk (st := s_judge_costs) l18 c18 k18
  have F19 := fun_mk (st := s_judge_depths) l19 c19 k19
  have F20 := fun_mk (st := s_judge_row_depths) l20 c20 k20
  have F21 := fun_mk (st := s_law_truth) l21 c21 k21
  have F22 := fun_mk (st := s_law_things) l22 c22 k22
  have F23 := fun_mk (st := s_law_split) l23 c23 k23
  have F24 := fun_mk (st := s_law_settles) l24 c24 k24
  have F25 := fun_mk (st := s_law_layers) l25 c25 k25
  have F26 := fun_mk (st := s_law_right) l26 c26 k26
  have F27 := fun_mk (st := s_law) l27 c27 k27
  refine ⟨PySem.W.fnOf "law" "law" (defArgs s_law) (defBody s_law) (defScope s_law) .none kV27 dc27 pm27 an27 cd27 ct27, fun s v => .of_eq rfl, fun base _ _ => ?_⟩
  have R : Rs l.prog w K mg base := ⟨x0 base⟩
  have q0 := calq F0 (PySem.W.mg_of X G a0) (ok_law_mixed (P := l.prog) (w := w) (mg := mg) (base := base) F0 B) (fun _ _ _ _ _ _ us hl => match us, hl with | [_, _], _ => rfl)
  have q1 := calq F1 (PySem.W.mg_of X G a1) (ok_law_purse (P := l.prog) (w := w) (mg := mg) (base := base) F1 B ⟨q0⟩) (fun _ _ _ _ _ _ us hl => match us, hl with | [_], _ => rfl)
  have q2 := calq F2 (PySem.W.mg_of X G a2) (ok_law_take (P := l.prog) (w := w) (mg := mg) (base := base) F2 B) (fun _ _ _ _ _ _ us hl => match us, hl with | [_, _], _ => rfl)
  have q3 := calq F3 (PySem.W.mg_of X G a3) (ok_law_row (P := l.prog) (w := w) (mg := mg) (base := base) F3 B ⟨q2⟩) (fun _ _ _ _ _ _ us hl => match us, hl with | [_, _, _], _ => rfl)
  have q4 := calq F4 (PySem.W.mg_of X G a4) (ok_law_asks (P := l.prog) (w := w) (mg := mg) (base := base) F4 B ⟨q2, q3⟩) (fun _ _ _ _ _ _ us hl => match us, hl with | [_, _, _], _ => rfl)
  have q5 := calq F5 (PySem.W.mg_of X G a5) (ok_members (P := l.prog) (w := w) (mg := mg) (base := base) F5 B) (fun _ _ _ _ _ _ us hl => match us, hl with | [_], _ => rfl)
  have q6 := calq F6 (PySem.W.mg_of X G a6) (ok_classes_by (P := l.prog) (w := w) (mg := mg) (base := base) F6 B ⟨q5⟩) (fun _ _ _ _ _ _ us hl => match us, hl with | [_, _], _ => rfl)
  have q7 := calq F7 (PySem.W.mg_of X G a7) (ok_worst_of (P := l.prog) (w := w) (mg := mg) (base := base) F7 B) (fun _ _ _ _ _ _ us hl => match us, hl with | [_, _], _ => rfl)
  have q8 := calq F8 (PySem.W.mg_of X G a8) (ok_best_at (P := l.prog) (w := w) (mg := mg) (base := base) F8 B ⟨q6, q7⟩) (fun _ _ _ _ _ _ us hl => match us, hl with | [_, _, _, _], _ => rfl)
  have q9 := calq F9 (PySem.W.mg_of X G a9) (ok_solved (P := l.prog) (w := w) (mg := mg) (base := base) F9 B ⟨q5, q8⟩ M R) (fun _ _ _ _ _ _ us hl => match us, hl with | [_, _, _], _ => rfl)
  have q10 := calq F10 (PySem.W.mg_of X G a10) (ok_ask_depths (P := l.prog) (w := w) (mg := mg) (base := base) F10 B ⟨q9⟩) (fun _ _ _ _ _ _ us hl => match us, hl with | [_, _], _ => rfl)
  have q11 := calq F11 (PySem.W.mg_of X G a11) (ok_row_depths (P := l.prog) (w := w) (mg := mg) (base := base) F11 B ⟨q9⟩) (fun _ _ _ _ _ _ us hl => match us, hl with | [_, _], _ => rfl)
  have q12 := calq F12 (PySem.W.mg_of X G a12) (ok_law_told (P := l.prog) (w := w) (mg := mg) (base := base) F12 B ⟨q10, q11⟩ Y) (fun _ _ _ _ _ _ us hl => match us, hl with | [_, _, _], _ => rfl)
  have q13 := calq F13 (PySem.W.mg_of X G a13) (ok_is_number (P := l.prog) (w := w) (mg := mg) (base := base) F13 B) (fun _ _ _ _ _ _ us hl => match us, hl with | [_], _ => rfl)
  have q14 := calq F14 (PySem.W.mg_of X G a14) (ok_is_tuple_of (P := l.prog) (w := w) (mg := mg) (base := base) F14 B) (fun _ _ _ _ _ _ us hl => match us, hl with | [_, _], _ => rfl)
  have q15 := calq F15 (PySem.W.mg_of X G a15) (ok_are_parted (P := l.prog) (w := w) (mg := mg) (base := base) F15 B) (fun _ _ _ _ _ _ us hl => match us, hl with | [_, _], _ => rfl)
  have q16 := calq F16 (PySem.W.mg_of X G a16) (ok_worst_class (P := l.prog) (w := w) (mg := mg) (base := base) F16 B) (fun _ _ _ _ _ _ us hl => match us, hl with | [_, _], _ => rfl)
  have q17 := calq F17 (PySem.W.mg_of X G a17) (ok_is_least_depth (P := l.prog) (w := w) (mg := mg) (base := base) F17 B ⟨q6, q16⟩) (fun _ _ _ _ _ _ us hl => match us, hl with | [_, _, _, _], _ => rfl)
  have q18 := calq F18 (PySem.W.mg_of X G a18) (ok_judge_costs (P := l.prog) (w := w) (mg := mg) (base := base) F18 B ⟨q13, q5, q14, q15, q17⟩) (fun _ _ _ _ _ _ us hl => match us, hl with | [_, _, _, _], _ => rfl)
  have q19 := calq F19 (PySem.W.mg_of X G a19) (ok_judge_depths (P := l.prog) (w := w) (mg := mg) (base := base) F19 B ⟨q18⟩) (fun _ _ _ _ _ _ us hl => match us, hl with | [_, _, _], _ => rfl)
  have q20 := calq F20 (PySem.W.mg_of X G a20) (ok_judge_row_depths (P := l.prog) (w := w) (mg := mg) (base := base) F20 B ⟨q18⟩) (fun _ _ _ _ _ _ us hl => match us, hl with | [_, _, _], _ => rfl)
  have q21 := calq F21 (PySem.W.mg_of X G a21) (ok_law_truth (P := l.prog) (w := w) (mg := mg) (base := base) F21 B) (fun _ _ _ _ _ _ us hl => match us, hl with | [_], _ => rfl)
  have q22 := calq F22 (PySem.W.mg_of X G a22) (ok_law_things (P := l.prog) (w := w) (mg := mg) (base := base) F22 B) (fun _ _ _ _ _ _ us hl => match us, hl with | [_, _], _ => rfl)
  have q23 := calq F23 (PySem.W.mg_of X G a23) (ok_law_split (P := l.prog) (w := w) (mg := mg) (base := base) F23 B) (fun _ _ _ _ _ _ us hl => match us, hl with | [_, _], _ => rfl)
  have q24 := calq F24 (PySem.W.mg_of X G a24) (ok_law_settles (P := l.prog) (w := w) (mg := mg) (base := base) F24 B) (fun _ _ _ _ _ _ us hl => match us, hl with | [_, _, _], _ => rfl)
  have q25 := calq F25 (PySem.W.mg_of X G a25) (ok_law_layers (P := l.prog) (w := w) (mg := mg) (base := base) F25 B ⟨q22, q23, q24⟩) (fun _ _ _ _ _ _ us hl => match us, hl with | [_, _, _], _ => rfl)
  have q26 := calq F26 (PySem.W.mg_of X G a26) (ok_law_right (P := l.prog) (w := w) (mg := mg) (base := base) F26 B ⟨q19, q20, q21, q25, q12⟩) (fun _ _ _ _ _ _ us hl => match us, hl with | [_, _, _], _ => rfl)
  exact ok_law F27 B ⟨q1, q2, q4, q12, q26⟩
end W68
open PySem PySem.W PyProof.Rows
set_option maxHeartbeats 0 in
theorem PySem.Challenge.cw_columnwright_k68_ask_depths_holds : PySem.Challenge.rw_columnwright_k68_ask_depths.Holds := by
  w_on; o_law; k_head; (case hw => w_witness2)
  k_fill
  refine L2.walk_of (l := PySem.Challenge.rw_columnwright_k68_ask_depths) (n := 63) (k := 8) (x := "script") (CX := fun w => L2N.CX PySem.Challenge.rw_columnwright_k68_ask_depths.prog w) (sp := fun w => QL.spQ _ 1 W68.fs_law) rfl (by decide) rfl ⟨rfl, by decide, by decide⟩ (fun w h Y => PySem.W.kIn_of Y) ?F (fun _ _ a ns hl hO hS => QL.end_sp hO hS (W68.fs_end ns hl)) (fun _ _ _ _ _ h => QL.end_cx h)
  case F =>
    intro w mg fa h KX G hmg
    refine' W68.all_mk KX G hmg ?aC0 ?bC0 ?iC0 ?tI0 ?lI0 ?cI0 ?dI0 ?vI0 ?eI0 ?kI0 ?sI0 ?bI0 ?n0_limit ?hI ?oI ?zI ?x0_0 ?gc0 ?gr0 ?a0 ?l0 ?c0 ?k0 ?a1 ?l1 ?c1 ?k1 ?a2 ?l2 ?c2 ?k2 ?a3 ?l3 ?c3 ?k3 ?a4 ?l4 ?c4 ?k4 ?a5 ?l5 ?c5 ?k5 ?a6 ?l6 ?c6 ?k6 ?a7 ?l7 ?c7 ?k7 ?a8 ?l8 ?c8 ?k8 ?a9 ?l9 ?c9 ?k9 ?a10 ?l10 ?c10 ?k10 ?a11 ?l11 ?c11 ?k11 ?a12 ?l12 ?c12 ?k12 ?a13 ?l13 ?c13 ?k13 ?a14 ?l14 ?c14 ?k14 ?a15 ?l15 ?c15 ?k15 ?a16 ?l16 ?c16 ?k16 ?a17 ?l17 ?c17 ?k17 ?a18 ?l18 ?c18 ?k18 ?a19 ?l19 ?c19 ?k19 ?a20 ?l20 ?c20 ?k20 ?a21 ?l21 ?c21 ?k21 ?a22 ?l22 ?c22 ?k22 ?a23 ?l23 ?c23 ?k23 ?a24 ?l24 ?c24 ?k24 ?a25 ?l25 ?c25 ?k25 ?a26 ?l26 ?c26 ?k26 ?a27 ?l27 ?c27 ?k27 ?z0 ?z1 ?z2 ?z3 ?z4 ?z5 ?z6 ?z7 ?z8 ?z9 ?z10 ?z11 ?z12
    (case aC0 => k_is)
    (case bC0 => kernel_rfl)
    (case iC0 => k_is)
    (case tI0 => k_is)
    (case lI0 => k_is)
    (case cI0 => k_is)
    (case dI0 => k_is)
    (case vI0 => rfl)
    (case eI0 => first | rfl | decide +kernel)
    (case kI0 => k_is)
    (case sI0 => ks_is)
    (case bI0 => k_is)
    (case n0_limit => k_is)
    (case hI => first | rfl | decide +kernel)
    (case oI => k_is)
    (case zI => k_is)
    (case x0_0 => kernel_rfl)
    (case gc0 => k_is)
    (case gr0 => exact ⟨_, by first | rfl | kernel_rfl⟩)
    (case a0 => k_is)
    (case l0 => k_is)
    (case c0 => k_is)
    (case k0 => k_is)
    (case a1 => k_is)
    (case l1 => k_is)
    (case c1 => k_is)
    (case k1 => k_is)
    (case a2 => k_is)
    (case l2 => k_is)
    (case c2 => k_is)
    (case k2 => k_is)
    (case a3 => k_is)
    (case l3 => k_is)
    (case c3 => k_is)
    (case k3 => k_is)
    (case a4 => k_is)
    (case l4 => k_is)
    (case c4 => k_is)
    (case k4 => k_is)
    (case a5 => k_is)
    (case l5 => k_is)
    (case c5 => k_is)
    (case k5 => k_is)
    (case a6 => k_is)
    (case l6 => k_is)
    (case c6 => k_is)
    (case k6 => k_is)
    (case a7 => k_is)
    (case l7 => k_is)
    (case c7 => k_is)
    (case k7 => k_is)
    (case a8 => k_is)
    (case l8 => k_is)
    (case c8 => k_is)
    (case k8 => k_is)
    (case a9 => k_is)
    (case l9 => k_is)
    (case c9 => k_is)
    (case k9 => k_is)
    (case a10 => k_is)
    (case l10 => k_is)
    (case c10 => k_is)
    (case k10 => k_is)
    (case a11 => k_is)
    (case l11 => k_is)
    (case c11 => k_is)
    (case k11 => k_is)
    (case a12 => k_is)
    (case l12 => k_is)
    (case c12 => k_is)
    (case k12 => k_is)
    (case a13 => k_is)
    (case l13 => k_is)
    (case c13 => k_is)
    (case k13 => k_is)
    (case a14 => k_is)
    (case l14 => k_is)
    (case c14 => k_is)
    (case k14 => k_is)
    (case a15 => k_is)
    (case l15 => k_is)
    (case c15 => k_is)
    (case k15 => k_is)
    (case a16 => k_is)
    (case l16 => k_is)
    (case c16 => k_is)
    (case k16 => k_is)
    (case a17 => k_is)
    (case l17 => k_is)
    (case c17 => k_is)
    (case k17 => k_is)
    (case a18 => k_is)
    (case l18 => k_is)
    (case c18 => k_is)
    (case k18 => k_is)
    (case a19 => k_is)
    (case l19 => k_is)
    (case c19 => k_is)
    (case k19 => k_is)
    (case a20 => k_is)
    (case l20 => k_is)
    (case c20 => k_is)
    (case k20 => k_is)
    (case a21 => k_is)
    (case l21 => k_is)
    (case c21 => k_is)
    (case k21 => k_is)
    (case a22 => k_is)
    (case l22 => k_is)
    (case c22 => k_is)
    (case k22 => k_is)
    (case a23 => k_is)
    (case l23 => k_is)
    (case c23 => k_is)
    (case k23 => k_is)
    (case a24 => k_is)
    (case l24 => k_is)
    (case c24 => k_is)
    (case k24 => k_is)
    (case a25 => k_is)
    (case l25 => k_is)
    (case c25 => k_is)
    (case k25 => k_is)
    (case a26 => k_is)
    (case l26 => k_is)
    (case c26 => k_is)
    (case k26 => k_is)
    (case a27 => k_is)
    (case l27 => k_is)
    (case c27 => k_is)
    (case k27 => k_is)
    (case z0 => k_is)
    (case z1 => k_is)
    (case z2 => k_is)
    (case z3 => k_is)
    (case z4 => k_is)
    (case z5 => k_is)
    (case z6 => k_is)
    (case z7 => k_is)
    (case z8 => k_is)
    (case z9 => k_is)
    (case z10 => k_is)
    (case z11 => k_is)
    (case z12 => k_is)
